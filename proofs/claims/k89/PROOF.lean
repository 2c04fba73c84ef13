import PyProof.Rows.All
import Wide.All
import OpenK.AllK
import Wide.FinOn
import KE.KStateDown
import HandS.Base
import HandS.Call
import HandS.Ends
import HandS.More
import HandS.Words
import HandS.WordsExc
import HandS.Defaults
import HandS.Property
import HandS.HeadEnd
import HandS.HeadHook1
import HandS.HeadHook2
import PySem.Challenge.RW_oneshelf_k89_whole_letters_to_write_down
import HandS.Head0
import HandS.Head1
import HandS.Head2
import HandS.List
import HandS.Comp
import HandS.Dict
import HandS.Iter
import HandS.Walk
import HandS.Text
import HandS.WordsList
import HandS.WordsDict
import HandS.IsInst
import HandS.Deep
import HandS.TupMul
import HandS.TupAny
import HandS.TupSets
import HandS.Strs
import HandS.Style
import HandS.WideBits
import HandS.Conv
import KE.GoesMore
import KE.GoesZip
import HandS.SetFor
import HandS.ListItems
import PyProof.ReprRoads
import HandS.SortInts
set_option Elab.async false
set_option linter.all false
set_option maxRecDepth 100000
set_option maxHeartbeats 4000000
/-! K89Text: the defs of the row's text by their places, and their data for the head. -/
namespace K89
open PySem PySem.Spec PyProof.Rows L2
def top (i : Nat) : Stmt := PySem.Challenge.pw_oneshelf_k89_whole_letters_to_write_down.main.body.getD i (.Pass ⟨0, 0, 0, 0⟩)
abbrev s_is_integer : Stmt := top 5
abbrev s_is_count : Stmt := top 6
abbrev s_is_text : Stmt := top 7
abbrev s_is_list : Stmt := top 8
abbrev s_is_tuple_of : Stmt := top 9
abbrev s_is_step : Stmt := top 28
abbrev s_said_to : Stmt := top 29
abbrev s_is_row : Stmt := top 30
abbrev s_want_rows : Stmt := top 31
abbrev s_events_in : Stmt := top 32
abbrev s_P___init__ : Stmt := inClass (top 33) 0
abbrev s_P_places_of : Stmt := inClass (top 33) 1
abbrev s_P_houses : Stmt := inClass (top 33) 2
abbrev s_P_rows : Stmt := inClass (top 33) 3
abbrev s_P_letters : Stmt := inClass (top 33) 5
abbrev s_P_said : Stmt := inClass (top 33) 6
abbrev s_P_heard : Stmt := inClass (top 33) 7
abbrev s_is_house : Stmt := top 34
abbrev s_is_ready : Stmt := top 37
abbrev s_least_line_from : Stmt := top 38
abbrev s_causes : Stmt := top 39
abbrev s_clocks_along : Stmt := top 40
abbrev s_is_rising_to : Stmt := top 42
abbrev s_is_kept : Stmt := top 43
abbrev s_want_kept : Stmt := top 44
abbrev s_carried : Stmt := top 45
abbrev s_want_fallen : Stmt := top 47
abbrev s_want_written : Stmt := top 48
abbrev s_want_all : Stmt := top 49
abbrev s_states_left : Stmt := top 50
abbrev s_all_left : Stmt := top 51
abbrev s_greatest_until : Stmt := top 52
abbrev s_steps_back : Stmt := top 53
abbrev s_cut_left : Stmt := top 54
abbrev s_remaining : Stmt := top 55
abbrev s_undone : Stmt := top 56
abbrev s_wanted_of : Stmt := top 57
abbrev s_to_write : Stmt := top 58
abbrev s_are_enough : Stmt := top 59
abbrev s_first_loss : Stmt := top 60
abbrev s__law_pot : Stmt := top 62
abbrev s__law_draw : Stmt := top 63
abbrev s__law_pick : Stmt := top 64
abbrev s__law_rows : Stmt := top 65
abbrev s__law_loose : Stmt := top 66
abbrev s__law_kept : Stmt := top 67
abbrev s__law_heard_letters : Stmt := top 68
abbrev s__law_left : Stmt := top 69
abbrev s__law_remaining : Stmt := top 70
abbrev s__law_lists : Stmt := top 72
abbrev s__law_loses : Stmt := top 73
abbrev s__law_to_write : Stmt := top 74
abbrev s__law_written_right : Stmt := top 75
abbrev s__law_right : Stmt := top 76
abbrev s_law : Stmt := top 77
/-! data -/
def d_is_integer : He.DefD := ⟨("is_integer", none), "is_integer", "is_integer", defArgs s_is_integer, defBody s_is_integer, defScope s_is_integer, [], []⟩
def d_is_count : He.DefD := ⟨("is_count", none), "is_count", "is_count", defArgs s_is_count, defBody s_is_count, defScope s_is_count, [], []⟩
def d_is_text : He.DefD := ⟨("is_text", none), "is_text", "is_text", defArgs s_is_text, defBody s_is_text, defScope s_is_text, [], []⟩
def d_is_list : He.DefD := ⟨("is_list", none), "is_list", "is_list", defArgs s_is_list, defBody s_is_list, defScope s_is_list, [], []⟩
def d_is_tuple_of : He.DefD := ⟨("is_tuple_of", none), "is_tuple_of", "is_tuple_of", defArgs s_is_tuple_of, defBody s_is_tuple_of, defScope s_is_tuple_of, [], []⟩
def d_is_step : He.DefD := ⟨("is_step", none), "is_step", "is_step", defArgs s_is_step, defBody s_is_step, defScope s_is_step, [], []⟩
def d_said_to : He.DefD := ⟨("said_to", none), "said_to", "said_to", defArgs s_said_to, defBody s_said_to, defScope s_said_to, [], []⟩
def d_is_row : He.DefD := ⟨("is_row", none), "is_row", "is_row", defArgs s_is_row, defBody s_is_row, defScope s_is_row, [], []⟩
def d_want_rows : He.DefD := ⟨("want_rows", none), "want_rows", "want_rows", defArgs s_want_rows, defBody s_want_rows, defScope s_want_rows, [], []⟩
def d_events_in : He.DefD := ⟨("events_in", none), "events_in", "events_in", defArgs s_events_in, defBody s_events_in, defScope s_events_in, [], []⟩
def d_P___init__ : He.DefD := ⟨("Picture", some "__init__"), "__init__", "Picture.__init__", defArgs s_P___init__, defBody s_P___init__, defScope s_P___init__, [], []⟩
def d_P_places_of : He.DefD := ⟨("Picture", some "places_of"), "places_of", "Picture.places_of", defArgs s_P_places_of, defBody s_P_places_of, defScope s_P_places_of, [], []⟩
def d_P_rows : He.DefD := ⟨("Picture", some "rows"), "rows", "Picture.rows", defArgs s_P_rows, defBody s_P_rows, defScope s_P_rows, [], []⟩
def d_P_letters : He.DefD := ⟨("Picture", some "letters"), "letters", "Picture.letters", defArgs s_P_letters, defBody s_P_letters, defScope s_P_letters, [], []⟩
def d_P_said : He.DefD := ⟨("Picture", some "said"), "said", "Picture.said", defArgs s_P_said, defBody s_P_said, defScope s_P_said, [], []⟩
def d_P_heard : He.DefD := ⟨("Picture", some "heard"), "heard", "Picture.heard", defArgs s_P_heard, defBody s_P_heard, defScope s_P_heard, [], []⟩
def d_is_house : He.DefD := ⟨("is_house", none), "is_house", "is_house", defArgs s_is_house, defBody s_is_house, defScope s_is_house, [], []⟩
def d_is_ready : He.DefD := ⟨("is_ready", none), "is_ready", "is_ready", defArgs s_is_ready, defBody s_is_ready, defScope s_is_ready, [], []⟩
def d_least_line_from : He.DefD := ⟨("least_line_from", none), "least_line_from", "least_line_from", defArgs s_least_line_from, defBody s_least_line_from, defScope s_least_line_from, [], []⟩
def d_causes : He.DefD := ⟨("causes", none), "causes", "causes", defArgs s_causes, defBody s_causes, defScope s_causes, [], []⟩
def d_clocks_along : He.DefD := ⟨("clocks_along", none), "clocks_along", "clocks_along", defArgs s_clocks_along, defBody s_clocks_along, defScope s_clocks_along, [], []⟩
def d_is_rising_to : He.DefD := ⟨("is_rising_to", none), "is_rising_to", "is_rising_to", defArgs s_is_rising_to, defBody s_is_rising_to, defScope s_is_rising_to, [], []⟩
def d_is_kept : He.DefD := ⟨("is_kept", none), "is_kept", "is_kept", defArgs s_is_kept, defBody s_is_kept, defScope s_is_kept, [], []⟩
def d_want_kept : He.DefD := ⟨("want_kept", none), "want_kept", "want_kept", defArgs s_want_kept, defBody s_want_kept, defScope s_want_kept, [], []⟩
def d_carried : He.DefD := ⟨("carried", none), "carried", "carried", defArgs s_carried, defBody s_carried, defScope s_carried, [], []⟩
def d_want_fallen : He.DefD := ⟨("want_fallen", none), "want_fallen", "want_fallen", defArgs s_want_fallen, defBody s_want_fallen, defScope s_want_fallen, [], []⟩
def d_want_written : He.DefD := ⟨("want_written", none), "want_written", "want_written", defArgs s_want_written, defBody s_want_written, defScope s_want_written, [], []⟩
def d_want_all : He.DefD := ⟨("want_all", none), "want_all", "want_all", defArgs s_want_all, defBody s_want_all, defScope s_want_all, [], []⟩
def d_states_left : He.DefD := ⟨("states_left", none), "states_left", "states_left", defArgs s_states_left, defBody s_states_left, defScope s_states_left, [], []⟩
def d_all_left : He.DefD := ⟨("all_left", none), "all_left", "all_left", defArgs s_all_left, defBody s_all_left, defScope s_all_left, [], []⟩
def d_greatest_until : He.DefD := ⟨("greatest_until", none), "greatest_until", "greatest_until", defArgs s_greatest_until, defBody s_greatest_until, defScope s_greatest_until, [], []⟩
def d_steps_back : He.DefD := ⟨("steps_back", none), "steps_back", "steps_back", defArgs s_steps_back, defBody s_steps_back, defScope s_steps_back, [], []⟩
def d_cut_left : He.DefD := ⟨("cut_left", none), "cut_left", "cut_left", defArgs s_cut_left, defBody s_cut_left, defScope s_cut_left, [], []⟩
def d_remaining : He.DefD := ⟨("remaining", none), "remaining", "remaining", defArgs s_remaining, defBody s_remaining, defScope s_remaining, [.adr (He.dflAt ("remaining", none) 0)], []⟩
def d_undone : He.DefD := ⟨("undone", none), "undone", "undone", defArgs s_undone, defBody s_undone, defScope s_undone, [.adr (He.dflAt ("undone", none) 0)], []⟩
def d_wanted_of : He.DefD := ⟨("wanted_of", none), "wanted_of", "wanted_of", defArgs s_wanted_of, defBody s_wanted_of, defScope s_wanted_of, [], []⟩
def d_to_write : He.DefD := ⟨("to_write", none), "to_write", "to_write", defArgs s_to_write, defBody s_to_write, defScope s_to_write, [], []⟩
def d_are_enough : He.DefD := ⟨("are_enough", none), "are_enough", "are_enough", defArgs s_are_enough, defBody s_are_enough, defScope s_are_enough, [], []⟩
def d_first_loss : He.DefD := ⟨("first_loss", none), "first_loss", "first_loss", defArgs s_first_loss, defBody s_first_loss, defScope s_first_loss, [], []⟩
def d__law_pot : He.DefD := ⟨("_law_pot", none), "_law_pot", "_law_pot", defArgs s__law_pot, defBody s__law_pot, defScope s__law_pot, [], []⟩
def d__law_draw : He.DefD := ⟨("_law_draw", none), "_law_draw", "_law_draw", defArgs s__law_draw, defBody s__law_draw, defScope s__law_draw, [], []⟩
def d__law_pick : He.DefD := ⟨("_law_pick", none), "_law_pick", "_law_pick", defArgs s__law_pick, defBody s__law_pick, defScope s__law_pick, [], []⟩
def d__law_rows : He.DefD := ⟨("_law_rows", none), "_law_rows", "_law_rows", defArgs s__law_rows, defBody s__law_rows, defScope s__law_rows, [], []⟩
def d__law_loose : He.DefD := ⟨("_law_loose", none), "_law_loose", "_law_loose", defArgs s__law_loose, defBody s__law_loose, defScope s__law_loose, [], []⟩
def d__law_kept : He.DefD := ⟨("_law_kept", none), "_law_kept", "_law_kept", defArgs s__law_kept, defBody s__law_kept, defScope s__law_kept, [], []⟩
def d__law_heard_letters : He.DefD := ⟨("_law_heard_letters", none), "_law_heard_letters", "_law_heard_letters", defArgs s__law_heard_letters, defBody s__law_heard_letters, defScope s__law_heard_letters, [], []⟩
def d__law_left : He.DefD := ⟨("_law_left", none), "_law_left", "_law_left", defArgs s__law_left, defBody s__law_left, defScope s__law_left, [], []⟩
def d__law_remaining : He.DefD := ⟨("_law_remaining", none), "_law_remaining", "_law_remaining", defArgs s__law_remaining, defBody s__law_remaining, defScope s__law_remaining, [], []⟩
def d__law_lists : He.DefD := ⟨("_law_lists", none), "_law_lists", "_law_lists", defArgs s__law_lists, defBody s__law_lists, defScope s__law_lists, [], []⟩
def d__law_loses : He.DefD := ⟨("_law_loses", none), "_law_loses", "_law_loses", defArgs s__law_loses, defBody s__law_loses, defScope s__law_loses, [], []⟩
def d__law_to_write : He.DefD := ⟨("_law_to_write", none), "_law_to_write", "_law_to_write", defArgs s__law_to_write, defBody s__law_to_write, defScope s__law_to_write, [], []⟩
def d__law_written_right : He.DefD := ⟨("_law_written_right", none), "_law_written_right", "_law_written_right", defArgs s__law_written_right, defBody s__law_written_right, defScope s__law_written_right, [], []⟩
def d__law_right : He.DefD := ⟨("_law_right", none), "_law_right", "_law_right", defArgs s__law_right, defBody s__law_right, defScope s__law_right, [], []⟩
def d_law : He.DefD := ⟨("law", none), "law", "law", defArgs s_law, defBody s_law, defScope s_law, [], []⟩
def fn : List He.DefD := [d_is_integer, d_is_count, d_is_text, d_is_list, d_is_tuple_of, d_is_step, d_said_to, d_is_row, d_want_rows, d_events_in, d_P___init__, d_P_places_of, d_P_rows, d_P_letters, d_P_said, d_P_heard, d_is_house, d_is_ready, d_least_line_from, d_causes, d_clocks_along, d_is_rising_to, d_is_kept, d_want_kept, d_carried, d_want_fallen, d_want_written, d_want_all, d_states_left, d_all_left, d_greatest_until, d_steps_back, d_cut_left, d_remaining, d_undone, d_wanted_of, d_to_write, d_are_enough, d_first_loss, d__law_pot, d__law_draw, d__law_pick, d__law_rows, d__law_loose, d__law_kept, d__law_heard_letters, d__law_left, d__law_remaining, d__law_lists, d__law_loses, d__law_to_write, d__law_written_right, d__law_right, d_law]
def fa : List He.Fa := ([.glo "is_integer", .glo "is_count", .glo "is_text", .glo "is_list", .glo "is_tuple_of", .glo "is_step", .glo "said_to", .glo "is_row", .glo "want_rows", .glo "events_in", .glo "is_house", .glo "is_ready", .glo "least_line_from", .glo "causes", .glo "clocks_along", .glo "is_rising_to", .glo "is_kept", .glo "want_kept", .glo "carried", .glo "want_fallen"] : List He.Fa)
  ++ ([.glo "want_written", .glo "want_all", .glo "states_left", .glo "all_left", .glo "greatest_until", .glo "steps_back", .glo "cut_left", .glo "remaining", .glo "undone", .glo "wanted_of", .glo "to_write", .glo "are_enough", .glo "first_loss", .glo "_law_pot", .glo "_law_draw", .glo "_law_pick", .glo "_law_rows", .glo "_law_loose", .glo "_law_kept", .glo "_law_heard_letters"] : List He.Fa)
  ++ ([.glo "_law_left", .glo "_law_remaining", .glo "_law_lists", .glo "_law_loses", .glo "_law_to_write", .glo "_law_written_right", .glo "_law_right", .glo "law", .glo "Picture", .free "isinstance", .free "int", .free "bool", .free "str", .free "dict", .free "list", .free "tuple", .free "len", .free "all", .free "any", .free "enumerate"] : List He.Fa)
  ++ ([.free "sorted", .free "set", .free "range", .free "sum", .free "max", .free "min", .free "zip", .free "repr", .free "abs", .free "divmod", .str "DO" "do", .str "SAY" "say", .str "HEAR" "hear", .str "SIGNS" "abcdefghijklmnopqrstuvwxyz0123456789", .int "MOST_SIGNS" 8, .int "MOST_HOUSES" 6, .int "MOST_EVENTS" 120, .cls "Picture", .noat "Picture" "own_rows", .noat "Picture" "sizes"] : List He.Fa)
  ++ ([.noat "Picture" "sayings", .noat "Picture" "hearings", .noat "Picture" "clocks", .meth "Picture" "places_of", .meth "Picture" "rows", .meth "Picture" "letters", .meth "Picture" "said", .meth "Picture" "heard", .mkr "Picture"] : List He.Fa)
def names : List PySem.Str := (["_wall", "LETTERS", "SIGNS", "MOST_SIGNS", "is_integer", "is_count", "is_text", "is_list", "is_tuple_of", "ShelfError", "MissingError", "LimitError", "TooMany", "InvalidRows", "InvalidEvent", "InvalidKept", "InvalidFallen", "InvalidWritten", "UnknownLetter", "DO"] : List PySem.Str)
  ++ (["SAY", "HEAR", "MOST_HOUSES", "MOST_EVENTS", "is_step", "said_to", "is_row", "want_rows", "events_in", "Picture", "is_house", "is_event", "want_event", "is_ready", "least_line_from", "causes", "clocks_along", "is_rising_to", "is_kept", "want_kept"] : List PySem.Str)
  ++ (["carried", "want_fallen", "want_written", "want_all", "states_left", "all_left", "greatest_until", "steps_back", "cut_left", "remaining", "undone", "wanted_of", "to_write", "are_enough", "first_loss", "_law_pot", "_law_draw", "_law_pick", "_law_rows", "_law_loose"] : List PySem.Str)
  ++ (["_law_kept", "_law_heard_letters", "_law_left", "_law_remaining", "_law_undone", "_law_lists", "_law_loses", "_law_to_write", "_law_written_right", "_law_right"] : List PySem.Str)
abbrev R : PySem.W.OpenRow := PySem.W.OpenLaw.row PySem.Challenge.rw_oneshelf_k89_whole_letters_to_write_down
abbrev lawAt : Nat := 77
end K89
set_option Elab.async false
set_option linter.all false
set_option maxRecDepth 100000
set_option maxHeartbeats 0
/-! K89Head: what the top leaves, by one run in the kernel. -/
namespace K89
open PySem PySem.Spec PyProof.Rows L2
/-- the property of the class, its getter -/
def prA (K : PySem.W.Frag) : Addr := He.ma K (He.ga K "Picture") "houses"
def pgA (K : PySem.W.Frag) : Addr := match PySem.W.recIn K (prA K) "property" with
  | some (.ref g :: _) => g
  | _ => 0
def recOkB (K : PySem.W.Frag) : Bool := match PySem.W.recIn K (prA K) "property" with
  | some (.ref _ :: _) => true
  | _ => false
def sysB (K : PySem.W.Frag) : Bool := match K.lookup sysModules with
  | some ⟨.type "dict", _, _, _⟩ => true
  | _ => false
def propB (K : PySem.W.Frag) : Bool := sysB K && He.eqO (PySem.W.findIn K (.ref (He.ga K "Picture")) "houses") (some (some (.ref (prA K)))) &&
  (He.eqO (PySem.W.specialIn K (.ref (prA K)) "__get__") (some (some (.builtin "property.__get__"))) && (decide (PySem.W.takesIn K (.ref (prA K)) = some true) && (recOkB K &&
  (PySem.W.keepIn K (.ref (pgA K)) && (match K.lookup (pgA K) with
    | some ⟨_, _, .func fd, _⟩ => PySem.W.codeIn K fd.code "Picture.houses" && (He.dflB K fd.defaults [] && He.kwdB K fd.kwdefaults [])
    | _ => false)))))
def fnP (K : PySem.W.Frag) : He.FnW := match K.lookup (pgA K) with
  | some ⟨_, _, .func fd, _⟩ => some (fd.name, fd.qualname, fd.params, fd.body, fd.scope, fd.globals, fd.closure, fd.builtins)
  | _ => none
def valP : He.FnW := some ("houses", "Picture.houses", defArgs s_P_houses, .stmts (defBody s_P_houses), defScope s_P_houses, mainGlobals, [], builtinsNs)
abbrev AlP : Type := He.AlD × Bool × He.FnW
def obsP (K : PySem.W.Frag) : AlP := (He.obsD fa fn K, propB K, fnP K)
def SaysP (K : PySem.W.Frag) : Prop := obsP K = (He.valD fn, true, valP)
def obsPG (g : Addr → Option Obj) : AlP := obsP (He.frG g (sysModules :: He.asD g 6))
def hk : PySem.W.Hook where
  α := AlP
  obs := fun s => obsPG s.heap.get?
  val := fun _ => (He.valD fn, true, valP)
  says := fun _ h => ∃ K : PySem.W.Frag, K.In h ∧ SaysP K
  of := fun _ _ e => ⟨_, He.frG_in, e⟩
  keeps := fun _ _ _ ⟨K, hK, c⟩ k => ⟨K, PySem.W.Frag.In.keeps hK k, c⟩
def ob (s : PySem.W.SharedT) : AlP := obsPG (HandSHeadRun.getT s)
theorem ob_eq (s : PySem.W.SharedT) : ob s = hk.obs s.abs := by
  have e : HandSHeadRun.getT s = s.abs.heap.get? := funext (HandSHeadRun.getT_eq s)
  unfold ob
  rw [e] <;> rfl
theorem run (w : World) : HandSHeadRun.RunEq R (PySem.W.view R.prog [77]) hk ob 6000 names w := by
  intro os
  kernel_rfl
end K89
set_option Elab.async false
set_option linter.all false
set_option maxRecDepth 100000
set_option maxHeartbeats 4000000
/-! K89Lay: a typed layer over the hand layer. A type says of a value what it is, as long as what stands in the frozen part G of the heap stands there; a state has typed slots and a list of objects that may still change. -/
namespace K89
open PySem L2

/-! ### heaps that grow -/
def Er (G H : Hp) : Prop := ∀ a u, G a = some u → H a = some u
theorem Er.refl (G : Hp) : Er G G := fun _ _ e => e
theorem Er.trans {G G1 G2 : Hp} (a : Er G G1) (b : Er G1 G2) : Er G G2 := fun x u e => b x u (a x u e)
theorem Er.no {G H : Hp} (e : Er G H) {a : Addr} (h : H a = none) : G a = none := by
  cases q : G a with
  | none => rfl
  | some u =>
    have z := e a u q
    rw [h] at z
    cases z
/-- a new object that is not frozen -/
theorem Er.new {G H : Hp} (e : Er G H) {p : Addr} {o : HO} (h : G p = none) : Er G (upd H p o) := fun a u q => by
  rw [upd_ne (ne_of_none q h)]
  exact e a u q
/-- a new object, frozen -/
theorem Er.both {G H : Hp} (e : Er G H) {p : Addr} {o : HO} : Er (upd G p o) (upd H p o) := fun a u q => by
  by_cases z : a = p
  · subst z
    rw [upd_same] at q ⊢
    exact q
  · rw [upd_ne z] at q ⊢
    exact e a u q
theorem Er.left {G H : Hp} (e : Er G H) {p : Addr} {o : HO} (h : H p = some o) : Er (upd G p o) H := fun a u q => by
  by_cases z : a = p
  · subst z
    rw [upd_same] at q
    rw [h]
    exact q
  · rw [upd_ne z] at q
    exact e a u q
theorem Er.grow {G : Hp} {p : Addr} {o : HO} (h : G p = none) : Er G (upd G p o) := (Er.refl G).new h
/-- without what stands at p -/
def rem (G : Hp) (p : Addr) : Hp := fun a => if a = p then none else G a
theorem rem_same {G : Hp} {p : Addr} : rem G p p = none := by
  unfold rem
  rw [if_pos rfl]
theorem rem_ne {G : Hp} {p a : Addr} (h : a ≠ p) : rem G p a = G a := by
  unfold rem
  rw [if_neg h]
theorem Er.rem {G H : Hp} (e : Er G H) (p : Addr) : Er (rem G p) H := fun a u q => by
  by_cases z : a = p
  · subst z
    rw [rem_same] at q
    cases q
  · rw [rem_ne z] at q
    exact e a u q
theorem Er.toRem {G H : Hp} (e : Er G H) {p : Addr} (h : G p = none) : Er G (K89.rem H p) := fun a u q => by
  rw [rem_ne (ne_of_none q h)]
  exact e a u q

/-! ### types -/
structure Ty where
  at_ : V → Hp → Prop
  mono : ∀ {G G' : Hp} {v : V}, Er G G' → at_ v G → at_ v G'
/-- values typed one by one -/
def At : List Ty → List V → Hp → Prop
  | [], [], _ => True
  | t :: ts, v :: vs, G => t.at_ v G ∧ At ts vs G
  | _, _, _ => False
theorem At.mono {G G' : Hp} (e : Er G G') : ∀ {ts : List Ty} {vs : List V}, At ts vs G → At ts vs G'
  | [], [], _ => trivial
  | t :: _, _ :: _, h => ⟨t.mono e h.1, At.mono e h.2⟩
  | [], _ :: _, h => h.elim
  | _ :: _, [], h => h.elim
theorem At.length {G : Hp} : ∀ {ts : List Ty} {vs : List V}, At ts vs G → vs.length = ts.length
  | [], [], _ => rfl
  | _ :: _, _ :: _, h => congrArg Nat.succ (At.length h.2)
  | [], _ :: _, h => h.elim
  | _ :: _, [], h => h.elim
theorem At.get {G : Hp} : ∀ {ts : List Ty} {vs : List V} {i : Nat} {t : Ty}, At ts vs G → ts[i]? = some t → ∃ v, vs[i]? = some v ∧ t.at_ v G
  | [], [], _, _, _, e => by simp at e
  | t :: _, v :: _, 0, _, h, e => by
    simp at e
    subst e
    exact ⟨v, rfl, h.1⟩
  | _ :: _, _ :: _, i + 1, _, h, e => by
    obtain ⟨v, e1, e2⟩ := At.get (i := i) h.2 (by simpa using e)
    exact ⟨v, by simpa using e1, e2⟩
  | [], _ :: _, _, _, h, _ => h.elim
  | _ :: _, [], _, _, h, _ => h.elim
theorem At.get' {G : Hp} : ∀ {ts : List Ty} {vs : List V} {i : Nat} {v : V}, At ts vs G → vs[i]? = some v → ∃ t, ts[i]? = some t ∧ t.at_ v G
  | [], [], _, _, _, e => by simp at e
  | t :: _, v :: _, 0, _, h, e => by
    simp at e
    subst e
    exact ⟨t, rfl, h.1⟩
  | _ :: _, _ :: _, i + 1, _, h, e => by
    obtain ⟨v, e1, e2⟩ := At.get' (i := i) h.2 (by simpa using e)
    exact ⟨v, by simpa using e1, e2⟩
  | [], _ :: _, _, _, h, _ => h.elim
  | _ :: _, [], _, _, h, _ => h.elim
theorem At.append {G : Hp} : ∀ {ts us : List Ty} {vs ws : List V}, At ts vs G → At us ws G → At (ts ++ us) (vs ++ ws) G
  | [], _, [], _, _, k => k
  | _ :: _, _, _ :: _, _, h, k => ⟨h.1, At.append h.2 k⟩
  | [], _, _ :: _, _, h, _ => h.elim
  | _ :: _, _, [], _, h, _ => h.elim
theorem At.set {G : Hp} {t : Ty} {v : V} (q : t.at_ v G) : ∀ {ts : List Ty} {vs : List V} (i : Nat), At ts vs G → At (ts.set i t) (vs.set i v) G
  | [], [], _, h => h
  | _ :: _, _ :: _, 0, h => ⟨q, h.2⟩
  | _ :: _, _ :: _, i + 1, h => ⟨h.1, At.set q i h.2⟩
  | [], _ :: _, _, h => h.elim
  | _ :: _, [], _, h => h.elim
theorem At.take {G : Hp} : ∀ {ts : List Ty} {vs : List V} (n : Nat), At ts vs G → At (ts.take n) (vs.take n) G
  | [], [], 0, _ => trivial
  | [], [], _ + 1, _ => trivial
  | _ :: _, _ :: _, 0, _ => trivial
  | _ :: _, _ :: _, n + 1, h => ⟨h.1, At.take n h.2⟩
  | [], _ :: _, _, h => h.elim
  | _ :: _, [], _, h => h.elim
theorem At.drop {G : Hp} : ∀ {ts : List Ty} {vs : List V} (n : Nat), At ts vs G → At (ts.drop n) (vs.drop n) G
  | [], [], 0, _ => trivial
  | [], [], _ + 1, _ => trivial
  | _ :: _, _ :: _, 0, h => h
  | _ :: _, _ :: _, n + 1, h => At.drop n h.2
  | [], _ :: _, _, h => h.elim
  | _ :: _, [], _, h => h.elim
theorem At.reverse {G : Hp} : ∀ {ts : List Ty} {vs : List V}, At ts vs G → At ts.reverse vs.reverse G
  | [], [], _ => trivial
  | _ :: _, _ :: _, h => by
    rw [List.reverse_cons, List.reverse_cons]
    exact At.append (At.reverse h.2) ⟨h.1, trivial⟩
  | [], _ :: _, h => h.elim
  | _ :: _, [], h => h.elim
theorem At.map {α : Type} {G : Hp} {f : α → Ty} {g : α → V} : ∀ {xs : List α}, (∀ x ∈ xs, (f x).at_ (g x) G) → At (xs.map f) (xs.map g) G
  | [], _ => trivial
  | x :: xs, h => ⟨h x (List.mem_cons_self ..), At.map fun y hy => h y (List.mem_cons_of_mem _ hy)⟩
theorem At.replicate {G : Hp} {t : Ty} {v : V} (h : t.at_ v G) : ∀ n, At (List.replicate n t) (List.replicate n v) G
  | 0 => trivial
  | n + 1 => ⟨h, At.replicate h n⟩

def tV (v : V) : Ty := ⟨fun x _ => x = v, fun _ h => h⟩
abbrev tI (i : Int) : Ty := tV (.int i)
abbrev tB (b : Bool) : Ty := tV (.bl b)
abbrev tS (s : Str) : Ty := tV (.str s)
abbrev tN : Ty := tV .non
abbrev tR (p : Addr) : Ty := tV (.ref p)
abbrev tn (n : Nat) : Ty := tV (.int (n : Int))
def tAny : Ty := ⟨fun _ _ => True, fun _ h => h⟩
def tEx {α : Type} (p : α → Prop) (f : α → Ty) : Ty := ⟨fun v G => ∃ x, p x ∧ (f x).at_ v G, fun e h => let ⟨x, hp, hx⟩ := h; ⟨x, hp, (f x).mono e hx⟩⟩
def sqO (tup : Bool) (vs : List V) : HO := match tup with
  | true => .tup vs
  | false => .lst vs
/-- a list (false), a tuple (true) -/
def tSq (tup : Bool) (ts : List Ty) : Ty := ⟨fun v G => ∃ a vs, v = .ref a ∧ G a = some (sqO tup vs) ∧ At ts vs G,
  fun e h => let ⟨a, vs, e1, e2, e3⟩ := h; ⟨a, vs, e1, e _ _ e2, e3.mono e⟩⟩
abbrev tL (ts : List Ty) : Ty := tSq false ts
abbrev tT (ts : List Ty) : Ty := tSq true ts
/-- dict entries, key by key -/
def AtD {κ : Type} : List (κ × Ty) → List (κ × V) → Hp → Prop
  | [], [], _ => True
  | t :: ts, v :: vs, G => v.1 = t.1 ∧ t.2.at_ v.2 G ∧ AtD ts vs G
  | _, _, _ => False
theorem AtD.mono {κ : Type} {G G' : Hp} (e : Er G G') : ∀ {ts : List (κ × Ty)} {vs : List (κ × V)}, AtD ts vs G → AtD ts vs G'
  | [], [], _ => trivial
  | t :: _, _ :: _, h => ⟨h.1, t.2.mono e h.2.1, AtD.mono e h.2.2⟩
  | [], _ :: _, h => h.elim
  | _ :: _, [], h => h.elim
theorem AtD.length {κ : Type} {G : Hp} : ∀ {ts : List (κ × Ty)} {vs : List (κ × V)}, AtD ts vs G → vs.length = ts.length
  | [], [], _ => rfl
  | _ :: _, _ :: _, h => congrArg Nat.succ (AtD.length h.2.2)
  | [], _ :: _, h => h.elim
  | _ :: _, [], h => h.elim
theorem AtD.keys {κ : Type} {G : Hp} : ∀ {ts : List (κ × Ty)} {vs : List (κ × V)}, AtD ts vs G → vs.map (·.1) = ts.map (·.1)
  | [], [], _ => rfl
  | _ :: _, _ :: _, h => by rw [List.map_cons, List.map_cons, h.1, AtD.keys h.2.2]
  | [], _ :: _, h => h.elim
  | _ :: _, [], h => h.elim
theorem AtD.get {κ : Type} {G : Hp} : ∀ {ts : List (κ × Ty)} {vs : List (κ × V)} {i : Nat} {t : κ × Ty}, AtD ts vs G → ts[i]? = some t → ∃ v, vs[i]? = some (t.1, v) ∧ t.2.at_ v G
  | [], [], _, _, _, e => by simp at e
  | t :: _, v :: _, 0, _, h, e => by
    simp at e
    subst e
    exact ⟨v.2, by rw [← h.1]; rfl, h.2.1⟩
  | _ :: _, _ :: _, i + 1, _, h, e => by
    obtain ⟨v, e1, e2⟩ := AtD.get (i := i) h.2.2 (by simpa using e)
    exact ⟨v, by simpa using e1, e2⟩
  | [], _ :: _, _, _, h, _ => h.elim
  | _ :: _, [], _, _, h, _ => h.elim
theorem AtD.vals {κ : Type} {G : Hp} : ∀ {ts : List (κ × Ty)} {vs : List (κ × V)}, AtD ts vs G → At (ts.map (·.2)) (vs.map (·.2)) G
  | [], [], _ => trivial
  | _ :: _, _ :: _, h => ⟨h.2.1, AtD.vals h.2.2⟩
  | [], _ :: _, h => h.elim
  | _ :: _, [], h => h.elim
/-- the type of a key -/
def dLook {κ : Type} [DecidableEq κ] (k : κ) : List (κ × Ty) → Option Ty
  | [] => none
  | t :: ts => if t.1 = k then some t.2 else dLook k ts
/-- a key stored -/
def dPut {κ : Type} [DecidableEq κ] (k : κ) (x : Ty) : List (κ × Ty) → List (κ × Ty)
  | [] => [(k, x)]
  | t :: ts => if t.1 = k then (k, x) :: ts else t :: dPut k x ts
/-- a frozen dict -/
def tD (kvs : List (Key × Ty)) : Ty := ⟨fun v G => ∃ a o vs, v = .ref a ∧ G a = some (.frz o (.dK vs)) ∧ AtD kvs vs G,
  fun e h => let ⟨a, o, vs, e1, e2, e3⟩ := h; ⟨a, o, vs, e1, e _ _ e2, e3.mono e⟩⟩
/-- what an instance of the class at C has: just these attributes -/
def insAt (as : List (Str × Ty)) (fs : List (Str × V)) (G : Hp) : Prop := AtD as fs G
def tO (C : Addr) (as : List (Str × Ty)) : Ty := ⟨fun v G => ∃ a dx fs, v = .ref a ∧ G a = some (.ins C dx fs) ∧ AtD as fs G,
  fun e h => let ⟨a, dx, fs, e1, e2, e3⟩ := h; ⟨a, dx, fs, e1, e _ _ e2, e3.mono e⟩⟩

/-! ### objects that may change -/
structure MTy where
  at_ : HO → Hp → Prop
  mono : ∀ {G G' : Hp} {o : HO}, Er G G' → at_ o G → at_ o G'
def mL (ts : List Ty) : MTy := ⟨fun o G => ∃ vs, o = .lst vs ∧ At ts vs G, fun e h => let ⟨vs, e1, e2⟩ := h; ⟨vs, e1, e2.mono e⟩⟩
def mD (kvs : List (Key × Ty)) : MTy := ⟨fun o G => ∃ vs, o = .dK vs ∧ AtD kvs vs G, fun e h => let ⟨vs, e1, e2⟩ := h; ⟨vs, e1, e2.mono e⟩⟩
def mDT (kvs : List (List Key × Ty)) : MTy := ⟨fun o G => ∃ vs, o = .dT vs ∧ AtD kvs vs G, fun e h => let ⟨vs, e1, e2⟩ := h; ⟨vs, e1, e2.mono e⟩⟩
def mO (C : Addr) (as : List (Str × Ty)) : MTy := ⟨fun o G => ∃ dx fs, o = .ins C dx fs ∧ AtD as fs G, fun e h => let ⟨dx, fs, e1, e2⟩ := h; ⟨dx, fs, e1, e2.mono e⟩⟩
def mEx {α : Type} (p : α → Prop) (f : α → MTy) : MTy := ⟨fun v G => ∃ x, p x ∧ (f x).at_ v G, fun e h => let ⟨x, hp, hx⟩ := h; ⟨x, hp, (f x).mono e hx⟩⟩
abbrev Mut1 := Addr × MTy

/-! ### states -/
/-- F: the callers' objects that may change (not ours); B: what was frozen at first; M: ours that may change -/
structure Hs (F B : Hp) (M : List Mut1) (H G : Hp) : Prop where
  er : Er G H
  eb : Er B G
  fr : ∀ a o, F a = some o → H a = some o ∧ G a = none
  mm : ∀ p m, (p, m) ∈ M → F p = none ∧ G p = none ∧ ∃ o, H p = some o ∧ m.at_ o G
  nd : (M.map (·.1)).Nodup
abbrev Gam := List (Option Ty)
def Sl : Gam → St → Hp → Prop
  | [], [], _ => True
  | none :: ts, _ :: vs, G => Sl ts vs G
  | some t :: ts, v :: vs, G => (∃ x, v = some x ∧ t.at_ x G) ∧ Sl ts vs G
  | _, _, _ => False
theorem Sl.mono {G G' : Hp} (e : Er G G') : ∀ {Γ : Gam} {σ : St}, Sl Γ σ G → Sl Γ σ G'
  | [], [], _ => trivial
  | none :: Γ, _ :: σ, h => Sl.mono (Γ := Γ) (σ := σ) e h
  | some t :: Γ, _ :: σ, h => by
    obtain ⟨⟨x, e1, e2⟩, k⟩ := h
    exact ⟨⟨x, e1, t.mono e e2⟩, Sl.mono (Γ := Γ) (σ := σ) e k⟩
  | [], _ :: _, h => h.elim
  | none :: _, [], h => h.elim
  | some _ :: _, [], h => h.elim
theorem Sl.get {G : Hp} {t : Ty} : ∀ {Γ : Gam} {σ : St} {i : Nat}, Sl Γ σ G → Γ[i]? = some (some t) → ∃ v, σ[i]? = some (some v) ∧ t.at_ v G
  | [], [], _, _, e => by simp at e
  | none :: _, _ :: _, 0, _, e => by simp at e
  | some u :: _, _ :: _, 0, h, e => by
    simp at e
    subst e
    obtain ⟨⟨x, e1, e2⟩, k⟩ := h
    exact ⟨x, by simp [e1], e2⟩
  | none :: Γ, _ :: σ, i + 1, h, e => by
    have e' : Γ[i]? = some (some t) := by simpa using e
    obtain ⟨v, e1, e2⟩ := Sl.get (Γ := Γ) (σ := σ) (i := i) h e'
    exact ⟨v, by simpa using e1, e2⟩
  | some _ :: Γ, _ :: σ, i + 1, h, e => by
    have e' : Γ[i]? = some (some t) := by simpa using e
    obtain ⟨v, e1, e2⟩ := Sl.get (Γ := Γ) (σ := σ) (i := i) h.2 e'
    exact ⟨v, by simpa using e1, e2⟩
  | [], _ :: _, _, h, _ => h.elim
  | none :: _, [], _, h, _ => h.elim
  | some _ :: _, [], _, h, _ => h.elim
theorem Sl.set {G : Hp} {t : Ty} {v : V} (q : t.at_ v G) : ∀ {Γ : Gam} {σ : St} (i : Nat), Sl Γ σ G → Sl (Γ.set i (some t)) (σ.set i (some v)) G
  | [], [], _, _ => trivial
  | none :: _, _ :: _, 0, h => ⟨⟨v, rfl, q⟩, h⟩
  | some _ :: _, _ :: _, 0, h => ⟨⟨v, rfl, q⟩, h.2⟩
  | none :: Γ, _ :: σ, i + 1, h => Sl.set q (Γ := Γ) (σ := σ) i h
  | some _ :: Γ, _ :: σ, i + 1, h => ⟨h.1, Sl.set q (Γ := Γ) (σ := σ) i h.2⟩
  | [], _ :: _, _, h => h.elim
  | none :: _, [], _, h => h.elim
  | some _ :: _, [], _, h => h.elim
/-- another type of what a slot holds -/
theorem Sl.ty {G : Hp} {t : Ty} {v : V} : ∀ {Γ : Gam} {σ : St} {i : Nat}, Sl Γ σ G → σ[i]? = some (some v) → t.at_ v G → Sl (Γ.set i (some t)) σ G
  | [], [], _, _, _, _ => trivial
  | none :: _, _ :: _, 0, h, e, q => ⟨⟨v, by simpa using e, q⟩, h⟩
  | some _ :: _, _ :: _, 0, h, e, q => ⟨⟨v, by simpa using e, q⟩, h.2⟩
  | none :: Γ, _ :: σ, i + 1, h, e, q => Sl.ty (Γ := Γ) (σ := σ) (i := i) h (by simpa using e) q
  | some _ :: Γ, _ :: σ, i + 1, h, e, q => ⟨h.1, Sl.ty (Γ := Γ) (σ := σ) (i := i) h.2 (by simpa using e) q⟩
  | [], _ :: _, _, h, _, _ => h.elim
  | none :: _, [], _, h, _, _ => h.elim
  | some _ :: _, [], _, h, _, _ => h.elim
def wip (Γ : Gam) : List Nat → Gam
  | [] => Γ
  | v :: vs => (wip Γ vs).set v none
theorem Sl.del {G : Hp} : ∀ {Γ : Gam} {σ : St} (i : Nat), Sl Γ σ G → Sl (Γ.set i none) (σ.set i none) G
  | [], [], _, _ => trivial
  | none :: _, _ :: _, 0, h => h
  | some _ :: _, _ :: _, 0, h => h.2
  | none :: Γ, _ :: σ, i + 1, h => Sl.del (Γ := Γ) (σ := σ) i h
  | some _ :: Γ, _ :: σ, i + 1, h => ⟨h.1, Sl.del (Γ := Γ) (σ := σ) i h.2⟩
  | [], _ :: _, _, h => h.elim
  | none :: _, [], _, h => h.elim
  | some _ :: _, [], _, h => h.elim
theorem Sl.wip {G : Hp} {Γ : Gam} {σ : St} (h : Sl Γ σ G) : ∀ vs : List Nat, Sl (K89.wip Γ vs) (wipe σ vs) G
  | [] => h
  | v :: vs => (Sl.wip h vs).del v
theorem Sl.len {G : Hp} : ∀ {Γ : Gam} {σ : St}, Sl Γ σ G → σ.length = Γ.length
  | [], [], _ => rfl
  | none :: Γ, _ :: σ, h => congrArg Nat.succ (Sl.len (Γ := Γ) (σ := σ) h)
  | some _ :: Γ, _ :: σ, h => congrArg Nat.succ (Sl.len (Γ := Γ) (σ := σ) h.2)
  | [], _ :: _, h => h.elim
  | none :: _, [], h => h.elim
  | some _ :: _, [], h => h.elim
theorem Sl.start {G : Hp} : ∀ {ts : List Ty} {vs : List V} (n : Nat), At ts vs G → Sl (ts.map some ++ List.replicate n none) (vs.map some ++ List.replicate n none) G
  | [], [], 0, _ => trivial
  | [], [], n + 1, _ => Sl.start (ts := []) (vs := []) n trivial
  | _ :: _, _ :: _, n, h => ⟨⟨_, rfl, h.1⟩, Sl.start n h.2⟩
  | [], _ :: _, _, h => h.elim
  | _ :: _, [], _, h => h.elim

/-! what an evaluation may do with the heap: it grows; what may change and is not ours stands -/
def Frm (G H G' H' : Hp) : Prop := ∀ a o, G a = none → H a = some o → H' a = some o ∧ G' a = none
section
variable {F B G H G' H' : Hp} {M : List Mut1}
theorem Hs.frm (s : Hs F B M H G) (e : Er G G') (e' : Er G' H') (f : Frm G H G' H') : Hs F B M H' G' :=
  ⟨e', s.eb.trans e, fun a o q => let ⟨h1, h2⟩ := s.fr a o q; f a o h2 h1, fun p m q => by
    obtain ⟨h1, h2, o, h3, h4⟩ := s.mm p m q
    obtain ⟨k1, k2⟩ := f p o h2 h3
    exact ⟨h1, k2, o, k1, m.mono e h4⟩, s.nd⟩
/-- a new frozen object -/
theorem Hs.new (s : Hs F B M H G) {p : Addr} {o : HO} (h : H p = none) : Hs F B M (upd H p o) (upd G p o) ∧ Er G (upd G p o) := by
  have g := s.er.no h
  refine ⟨s.frm (Er.grow g) s.er.both fun a u q1 q2 => ?_, Er.grow g⟩
  have ne : a ≠ p := ne_of_none q2 h
  rw [upd_ne ne, upd_ne ne]
  exact ⟨q2, q1⟩
/-- a new object that may change -/
theorem Hs.newM (s : Hs F B M H G) {p : Addr} {o : HO} {m : MTy} (h : H p = none) (q : m.at_ o G) : Hs F B ((p, m) :: M) (upd H p o) G := by
  have g := s.er.no h
  refine ⟨s.er.new g, s.eb, fun a u z => ?_, fun a u z => ?_, ?_⟩
  · obtain ⟨h1, h2⟩ := s.fr a u z
    rw [upd_ne (ne_of_none h1 h)]
    exact ⟨h1, h2⟩
  · rcases List.mem_cons.mp z with z | z
    · cases z
      refine ⟨?_, g, o, upd_same, q⟩
      cases e : F p with
      | none => rfl
      | some u =>
        have := (s.fr p u e).1
        rw [h] at this
        cases this
    · obtain ⟨h1, h2, u', h3, h4⟩ := s.mm a u z
      exact ⟨h1, h2, u', by rw [upd_ne (ne_of_none h3 h)]; exact h3, h4⟩
  · refine List.nodup_cons.mpr ⟨fun z => ?_, s.nd⟩
    obtain ⟨⟨a, u⟩, z1, z2⟩ := List.mem_map.mp z
    obtain ⟨_, _, u', h3, _⟩ := s.mm a u z1
    rw [show a = p from z2, h] at h3
    cases h3
/-- freezing -/
theorem Hs.frz0 {p : Addr} {m : MTy} {o : HO} (s : Hs F B ((p, m) :: M) H G) (h : H p = some o) : Hs F B M H (upd G p o) ∧ Er G (upd G p o) := by
  obtain ⟨h1, h2, _⟩ := s.mm p m (List.mem_cons_self ..)
  refine ⟨⟨s.er.left h, s.eb.trans (Er.grow h2), fun a u z => ?_, fun a u z => ?_, (List.nodup_cons.mp s.nd).2⟩, Er.grow h2⟩
  · obtain ⟨k1, k2⟩ := s.fr a u z
    have ne : a ≠ p := fun e => by rw [e, h1] at z; cases z
    rw [upd_ne ne]
    exact ⟨k1, k2⟩
  · obtain ⟨k1, k2, o', k3, k4⟩ := s.mm a u (List.mem_cons_of_mem _ z)
    have ne : a ≠ p := fun e => by
      subst e
      exact (List.nodup_cons.mp s.nd).1 (List.mem_map.mpr ⟨_, z, rfl⟩)
    exact ⟨k1, by rw [upd_ne ne]; exact k2, o', k3, u.mono (Er.grow h2) k4⟩
theorem Hs.perm {M' : List Mut1} (s : Hs F B M H G) (h : M'.Perm M) : Hs F B M' H G :=
  ⟨s.er, s.eb, s.fr, fun p m q => s.mm p m (h.mem_iff.mp q), (h.map (·.1)).nodup_iff.mpr s.nd⟩
theorem Hs.base {B' : Hp} (s : Hs F B M H G) (e : Er B' B) : Hs F B' M H G := ⟨s.er, e.trans s.eb, s.fr, s.mm, s.nd⟩
theorem Hs.tail {q : Mut1} (s : Hs F B (q :: M) H G) : Hs F B M H G := ⟨s.er, s.eb, s.fr, fun p m z => s.mm p m (List.mem_cons_of_mem _ z), (List.nodup_cons.mp s.nd).2⟩
theorem Hs.here (s : Hs F B M H G) : Hs F G M H G := ⟨s.er, Er.refl G, s.fr, s.mm, s.nd⟩
/-- an object of ours counts as another's for a while -/
theorem Hs.hide {p : Addr} {m : MTy} (s : Hs F B ((p, m) :: M) H G) {o : HO} (h : H p = some o) : Hs (upd F p o) B M H G := by
  obtain ⟨h1, h2, _⟩ := s.mm p m (List.mem_cons_self ..)
  refine ⟨s.er, s.eb, fun a u z => ?_, fun a u z => ?_, (List.nodup_cons.mp s.nd).2⟩
  · by_cases e : a = p
    · subst e
      rw [upd_same] at z
      cases z
      exact ⟨h, h2⟩
    · rw [upd_ne e] at z
      exact s.fr a u z
  · obtain ⟨k1, k2, o', k3, k4⟩ := s.mm a u (List.mem_cons_of_mem _ z)
    have ne : a ≠ p := fun e => by
      subst e
      exact (List.nodup_cons.mp s.nd).1 (List.mem_map.mpr ⟨_, z, rfl⟩)
    exact ⟨by rw [upd_ne ne]; exact k1, k2, o', k3, k4⟩
theorem Hs.show {p : Addr} {m : MTy} {o : HO} (s : Hs (upd F p o) B M H G) (hF : F p = none) (h : m.at_ o G) : Hs F B ((p, m) :: M) H G := by
  obtain ⟨h1, h2⟩ := s.fr p o upd_same
  refine ⟨s.er, s.eb, fun a u z => ?_, fun a u z => ?_, ?_⟩
  · exact s.fr a u (by rw [upd_ne (fun e => by rw [e, hF] at z; cases z)]; exact z)
  · rcases List.mem_cons.mp z with z | z
    · cases z
      exact ⟨hF, h2, o, h1, h⟩
    · obtain ⟨k1, k2, k3⟩ := s.mm a u z
      have ne : a ≠ p := fun e => by rw [e, upd_same] at k1; cases k1
      rw [upd_ne ne] at k1
      exact ⟨k1, k2, k3⟩
  · refine List.nodup_cons.mpr ⟨fun z => ?_, s.nd⟩
    obtain ⟨⟨a, u⟩, z1, z2⟩ := List.mem_map.mp z
    obtain ⟨k1, _⟩ := s.mm a u z1
    rw [show a = p from z2, upd_same] at k1
    cases k1
theorem Hs.swapF {p q : Addr} {o o' : HO} (s : Hs (upd (upd F p o) q o') B M H G) (ne : p ≠ q) : Hs (upd (upd F q o') p o) B M H G := by
  have e : upd (upd F p o) q o' = upd (upd F q o') p o := by
    funext a
    by_cases z1 : a = p
    · subst z1
      rw [upd_ne ne, upd_same, upd_same]
    · by_cases z2 : a = q
      · subst z2
        rw [upd_same, upd_ne z1, upd_same]
      · rw [upd_ne z2, upd_ne z1, upd_ne z1, upd_ne z2]
  rw [← e]
  exact s
/-- an object of ours is written -/
theorem Hs.write {p : Addr} {m m' : MTy} {o : HO} (s : Hs F B ((p, m) :: M) H G) (q : m'.at_ o G) : Hs F B ((p, m') :: M) (upd H p o) G := by
  obtain ⟨h1, h2, o', h3, _⟩ := s.mm p m (List.mem_cons_self ..)
  refine ⟨s.er.new h2, s.eb, fun a u z => ?_, fun a u z => ?_, s.nd⟩
  · obtain ⟨k1, k2⟩ := s.fr a u z
    rw [upd_ne (fun e => by rw [e, h1] at z; cases z)]
    exact ⟨k1, k2⟩
  · rcases List.mem_cons.mp z with z0 | z1
    · cases z0
      exact ⟨h1, h2, o, upd_same, q⟩
    · obtain ⟨k1, k2, o2, k3, k4⟩ := s.mm a u (List.mem_cons_of_mem _ z1)
      have ne : a ≠ p := fun e => by
        subst e
        exact (List.nodup_cons.mp s.nd).1 (List.mem_map.mpr ⟨_, z1, rfl⟩)
      exact ⟨k1, k2, o2, by rw [upd_ne ne]; exact k3, k4⟩
/-! all of ours hidden for a while -/
def hid (F : Hp) (M : List Mut1) (H : Hp) : Hp := fun a => if a ∈ M.map (·.1) then H a else F a
theorem Hs.hideAll (s : Hs F B M H G) : Hs (hid F M H) B [] H G := by
  refine ⟨s.er, s.eb, fun a o z => ?_, fun a u z => (nomatch z), List.nodup_nil⟩
  unfold hid at z
  by_cases e : a ∈ M.map (·.1)
  · rw [if_pos e] at z
    obtain ⟨⟨b, m⟩, z1, z2⟩ := List.mem_map.mp e
    have z3 : b = a := z2
    subst z3
    exact ⟨z, (s.mm _ m z1).2.1⟩
  · rw [if_neg e] at z
    exact s.fr a o z
theorem hid_in {p : Addr} {m : MTy} (h : (p, m) ∈ M) : hid F M H p = H p := by
  unfold hid
  rw [if_pos (List.mem_map.mpr ⟨_, h, rfl⟩)]
theorem hid_out {a : Addr} {o : HO} (s : Hs F B M H G) (h : F a = some o) : hid F M H a = some o := by
  unfold hid
  by_cases e : a ∈ M.map (·.1)
  · obtain ⟨⟨b, m⟩, z1, z2⟩ := List.mem_map.mp e
    have z3 : b = a := z2
    subst z3
    have k := (s.mm _ m z1).1
    rw [h] at k
    cases k
  · rw [if_neg e]
    exact h
/-- .. and shown again: H', G' are behind -/
theorem Hs.showAll {B' : Hp} (s : Hs F B M H G) (s' : Hs (hid F M H) B' [] H' G') (e : Er G G') : Hs F B M H' G' :=
  ⟨s'.er, s.eb.trans e, fun a o z => s'.fr a o (hid_out s z), fun p m z => by
    obtain ⟨h1, h2, o, h3, h4⟩ := s.mm p m z
    obtain ⟨k1, k2⟩ := s'.fr p o (by rw [hid_in z]; exact h3)
    exact ⟨h1, k2, o, k1, m.mono e h4⟩, s.nd⟩
theorem perm_at {q : Mut1} : ∀ {M : List Mut1} {j : Nat}, M[j]? = some q → M.Perm (q :: M.eraseIdx j)
  | [], _, h => by simp at h
  | a :: M, 0, h => by
    simp at h
    subst h
    exact List.Perm.refl _
  | a :: M, j + 1, h => by
    have k := perm_at (M := M) (j := j) (by simpa using h)
    exact (k.cons a).trans (List.Perm.swap q a (M.eraseIdx j))
/-- one of ours is written, by its place -/
theorem Hs.put {j : Nat} {p : Addr} {m m' : MTy} {o : HO} (s : Hs F B M H G) (hj : M[j]? = some (p, m)) (q : m'.at_ o G) : Hs F B (M.set j (p, m')) (upd H p o) G := by
  have hp : (p, m) ∈ M := List.mem_of_getElem? hj
  obtain ⟨h1, h2, o', h3, _⟩ := s.mm p m hp
  have nd := s.nd
  have hk : (M.set j (p, m')).map (·.1) = M.map (·.1) := by
    rw [List.map_set]
    refine List.ext_getElem? fun i => ?_
    rw [List.getElem?_set]
    by_cases z : j = i
    · subst z
      rw [if_pos rfl, List.getElem?_map, hj]
      split
      · rfl
      · rename_i hl
        have := (List.getElem?_eq_some_iff.mp hj).1
        simp at hl
        omega
    · rw [if_neg z]
  refine ⟨s.er.new h2, s.eb, fun a u z => ?_, fun a u z => ?_, by rw [hk]; exact nd⟩
  · obtain ⟨k1, k2⟩ := s.fr a u z
    rw [upd_ne (fun e => by rw [e, h1] at z; cases z)]
    exact ⟨k1, k2⟩
  · obtain ⟨i, hi⟩ := List.getElem?_of_mem z
    rw [List.getElem?_set] at hi
    by_cases zi : j = i
    · rw [if_pos zi] at hi
      have hi2 : (p, m') = (a, u) := by
        split at hi
        · exact Option.some.inj hi
        · cases hi
      cases hi2
      exact ⟨h1, h2, o, upd_same, q⟩
    · rw [if_neg zi] at hi
      obtain ⟨k1, k2, o2, k3, k4⟩ := s.mm a u (List.mem_of_getElem? hi)
      have ne : a ≠ p := fun e => by
        subst e
        have l1 : (M.map (·.1))[i]? = some a := by rw [List.getElem?_map, hi]; rfl
        have l2 : (M.map (·.1))[j]? = some a := by rw [List.getElem?_map, hj]; rfl
        obtain ⟨b1, c1⟩ := List.getElem?_eq_some_iff.mp l1
        obtain ⟨b2, c2⟩ := List.getElem?_eq_some_iff.mp l2
        exact zi ((List.getElem_inj nd).mp (c2.trans c1.symm))
      exact ⟨k1, k2, o2, by rw [upd_ne ne]; exact k3, k4⟩
end
end K89
set_option Elab.async false
set_option linter.all false
set_option maxRecDepth 100000
set_option maxHeartbeats 4000000
/-! K89E: judgements over the typed layer: what an expression, a test, an argument list, a new object comes to (E, ET, EA, EN), and what a statement is worth (N). -/
namespace K89
open PySem L2

def E (te : TE) (Γ : Gam) (M : List Mut1) (t : Ty) : Prop := ∀ F B σ H G, Hs F B M H G → Sl Γ σ G → ∀ Q : VK, (∀ v H' G', Hs F B M H' G' → Er G G' → t.at_ v G' → Q v H') → te σ H Q
def ET (tt : TT) (Γ : Gam) (M : List Mut1) (φ : Bool → Prop) : Prop := ∀ F B σ H G, Hs F B M H G → Sl Γ σ G → ∀ Q : Bool → Hp → Prop, (∀ b H' G', Hs F B M H' G' → Er G G' → φ b → Q b H') → tt σ H Q
def EA (ta : TA) (Γ : Gam) (M : List Mut1) (ts : List Ty) : Prop := ∀ F B σ H G, Hs F B M H G → Sl Γ σ G → ∀ Q : List V → Hp → Prop, (∀ vs H' G', Hs F B M H' G' → Er G G' → At ts vs G' → Q vs H') → ta σ H Q
def EN (te : TE) (Γ : Gam) (M : List Mut1) (m : MTy) : Prop := ∀ F B σ H G, Hs F B M H G → Sl Γ σ G → ∀ Q : VK, (∀ p H' G', Hs F B ((p, m) :: M) H' G' → Er G G' → Q (.ref p) H') → te σ H Q
def N (P : St → Hp → Prop) (F B : Hp) (Γ : Gam) (M : List Mut1) : Prop := ∀ σ H G, Hs F B M H G → Sl Γ σ G → P σ H
abbrev ETb (tt : TT) (Γ : Gam) (M : List Mut1) (b : Bool) : Prop := ET tt Γ M (fun c => c = b)
def Flat (t : Ty) : Prop := ∀ v G G', t.at_ v G → t.at_ v G'
theorem flat_V {v : V} : Flat (tV v) := fun _ _ _ h => h
theorem flat_Any : Flat tAny := fun _ _ _ h => h
theorem flat_Ex {α : Type} {q : α → Prop} {f : α → Ty} (h : ∀ x, Flat (f x)) : Flat (tEx q f) := fun v G G' ⟨x, h1, h2⟩ => ⟨x, h1, h x v G G' h2⟩
theorem flat_At {ts : List Ty} (h : ∀ t ∈ ts, Flat t) : ∀ {vs : List V} {G G' : Hp}, At ts vs G → At ts vs G' := by
  induction ts with
  | nil =>
    intro vs G G' q
    cases vs <;> exact q
  | cons t ts ih =>
    intro vs G G' q
    cases vs with
    | nil => exact q
    | cons v vs => exact ⟨h t (List.mem_cons_self ..) v G G' q.1, ih (fun u hu => h u (List.mem_cons_of_mem _ hu)) q.2⟩

section
variable {Γ : Gam} {M : List Mut1} {ta tb tc te : TE} {tt tu : TT} {t u t1 t2 : Ty} {ts us : List Ty} {x y z v : V} {K : PySem.W.Frag} {p : Addr} {m : MTy}

/-! ### the same said otherwise -/
theorem E.to (h : E te Γ M t) (e : t = u) : E te Γ M u := e ▸ h
theorem E.imp (h : E te Γ M t) (e : ∀ v G, t.at_ v G → u.at_ v G) : E te Γ M u := fun F B σ H G s g Q q => h F B σ H G s g Q fun v H' G' s' e' a => q v H' G' s' e' (e v G' a)
theorem ET.imp {φ ψ : Bool → Prop} (h : ET tt Γ M φ) (e : ∀ b, φ b → ψ b) : ET tt Γ M ψ := fun F B σ H G s g Q q => h F B σ H G s g Q fun v H' G' s' e' a => q v H' G' s' e' (e v a)
theorem ET.to {b c : Bool} (h : ETb tt Γ M b) (e : b = c) : ETb tt Γ M c := e ▸ h
theorem EN.imp {m' : MTy} (h : EN te Γ M m) (e : ∀ o G, m.at_ o G → m'.at_ o G) : EN te Γ M m' := fun F B σ H G s g Q q => h F B σ H G s g Q fun p H' G' s' e' =>
  q p H' G' ⟨s'.er, s'.eb, s'.fr, fun a m1 z => by
    rcases List.mem_cons.mp z with z | z
    · cases z
      obtain ⟨k1, k2, o, k3, k4⟩ := s'.mm p m (List.mem_cons_self ..)
      exact ⟨k1, k2, o, k3, e o G' k4⟩
    · exact s'.mm a m1 (List.mem_cons_of_mem _ z), s'.nd⟩ e'
/-- objects of ours that are not looked at -/
theorem E.skips (h : E te Γ [] t) : E te Γ M t := fun F B σ H G s g Q q =>
  h _ B σ H G s.hideAll g Q fun v H' G' s' e' a => q v H' G' (s.showAll s' e') e' a
theorem ET.skips {φ : Bool → Prop} (h : ET tt Γ [] φ) : ET tt Γ M φ := fun F B σ H G s g Q q =>
  h _ B σ H G s.hideAll g Q fun v H' G' s' e' a => q v H' G' (s.showAll s' e') e' a
theorem EN.skips (h : EN te Γ [] m) : EN te Γ M m := fun F B σ H G s g Q q =>
  h _ B σ H G s.hideAll g Q fun p H' G' s' e' => by
    obtain ⟨k1, k2, o, k3, k4⟩ := s'.mm p m (List.mem_cons_self ..)
    have nM : p ∉ M.map (·.1) := fun z => by
      obtain ⟨⟨b, n⟩, z1, z2⟩ := List.mem_map.mp z
      have z3 : b = p := z2
      subst z3
      obtain ⟨_, _, o', y3, _⟩ := s.mm _ n z1
      rw [hid_in z1, y3] at k1
      cases k1
    have s1 := s.showAll s'.tail e'
    exact q p H' G' ⟨s1.er, s1.eb, s1.fr, fun a n z => by
      rcases List.mem_cons.mp z with z | z
      · cases z
        refine ⟨?_, k2, o, k3, k4⟩
        cases w : F p with
        | none => rfl
        | some u =>
          rw [hid_out s w] at k1
          cases k1
      · exact s1.mm a n z, List.nodup_cons.mpr ⟨nM, s.nd⟩⟩ e'
/-- a list of ours, read: frozen for a while -/
theorem focus_core {i j : Nat} {σ : St} {F B H G : Hp} {o : HO} (hp : Γ[i]? = some (some (tR p))) (hj : M[j]? = some (p, m)) (s : Hs F B M H G) (g : Sl Γ σ G) (ho : H p = some o)
    (ht : t.at_ (.ref p) (upd G p o)) : Hs (hid F (M.eraseIdx j) H) B [] H (upd G p o) ∧ Er G (upd G p o) ∧ Sl (Γ.set i (some t)) σ (upd G p o) ∧
      ∀ {B' H' G' : Hp}, Hs (hid F (M.eraseIdx j) H) B' [] H' G' → Er (upd G p o) G' → Hs F B M H' (rem G' p) ∧ Er G (rem G' p) := by
  have s0 := s.perm (perm_at hj).symm
  obtain ⟨h1, h2, o', h3, h4⟩ := s0.mm p m (List.mem_cons_self ..)
  obtain ⟨s1, e1⟩ := s0.frz0 ho
  obtain ⟨w, g1, g2⟩ := g.get hp
  have g2' : w = .ref p := g2
  subst g2'
  rw [ho] at h3
  cases h3
  refine ⟨s1.hideAll, e1, (g.mono e1).ty g1 ht, fun {B' H' G'} s' e' => ?_⟩
  have k1 : G' p = some o := e' p _ upd_same
  have k2 : H' p = some o := s'.er p _ k1
  have e2 : Er G (rem G' p) := (e1.trans e').toRem h2
  refine ⟨Hs.perm (M := (p, m) :: M.eraseIdx j) ⟨s'.er.rem p, s.eb.trans e2, fun a u z => ?_, fun a u z => ?_, s0.nd⟩ (perm_at hj), e2⟩
  · have z0 : hid F (M.eraseIdx j) H a = some u := hid_out s1 z
    obtain ⟨z1, z2⟩ := s'.fr a u z0
    have ne : a ≠ p := fun e => by rw [e, h1] at z; cases z
    rw [rem_ne ne]
    exact ⟨z1, z2⟩
  · rcases List.mem_cons.mp z with z0 | z0
    · cases z0
      exact ⟨h1, rem_same, _, k2, m.mono e2 h4⟩
    · obtain ⟨y1, y2, o0, y3, y4⟩ := s0.mm a u (List.mem_cons_of_mem _ z0)
      obtain ⟨z1, z2⟩ := s'.fr a o0 (by rw [hid_in z0]; exact y3)
      have ne : a ≠ p := fun e => by
        subst e
        exact (List.nodup_cons.mp s0.nd).1 (List.mem_map.mpr ⟨_, z0, rfl⟩)
      exact ⟨y1, by rw [rem_ne ne]; exact z2, o0, z1, u.mono e2 y4⟩
theorem E.focusL {i j : Nat} (hp : Γ[i]? = some (some (tR p))) (hj : M[j]? = some (p, mL ts)) (h : E te (Γ.set i (some (tL ts))) [] t) (ht : Flat t) : E te Γ M t := fun F B σ H G s g Q q => by
  obtain ⟨_, _, o, h3, vs, h4, h5⟩ := s.mm p _ (List.mem_of_getElem? hj)
  subst h4
  have hg : G p = none := (s.mm p _ (List.mem_of_getElem? hj)).2.1
  obtain ⟨a1, a2, a3, a4⟩ := focus_core (t := tL ts) hp hj s g h3 ⟨p, vs, rfl, upd_same, h5.mono (Er.grow hg)⟩
  refine h _ B σ H _ a1 a3 Q fun v H' G' s' e' a => ?_
  obtain ⟨b1, b2⟩ := a4 s' e'
  exact q v H' _ b1 b2 (ht v _ _ a)
theorem ET.focusL {φ : Bool → Prop} {i j : Nat} (hp : Γ[i]? = some (some (tR p))) (hj : M[j]? = some (p, mL ts)) (h : ET tt (Γ.set i (some (tL ts))) [] φ) : ET tt Γ M φ := fun F B σ H G s g Q q => by
  obtain ⟨_, _, o, h3, vs, h4, h5⟩ := s.mm p _ (List.mem_of_getElem? hj)
  subst h4
  have hg : G p = none := (s.mm p _ (List.mem_of_getElem? hj)).2.1
  obtain ⟨a1, a2, a3, a4⟩ := focus_core (t := tL ts) hp hj s g h3 ⟨p, vs, rfl, upd_same, h5.mono (Er.grow hg)⟩
  refine h _ B σ H _ a1 a3 Q fun v H' G' s' e' a => ?_
  obtain ⟨b1, b2⟩ := a4 s' e'
  exact q v H' _ b1 b2 a
/-- a new object out of it that holds nothing but flat things -/
def FlatM (m : MTy) : Prop := ∀ o G G', m.at_ o G → m.at_ o G'
theorem flat_mL (h : ∀ t ∈ ts, Flat t) : FlatM (mL ts) := fun o G G' ⟨vs, h1, h2⟩ => ⟨vs, h1, flat_At h h2⟩
theorem flat_mEx {α : Type} {q : α → Prop} {f : α → MTy} (h : ∀ x, FlatM (f x)) : FlatM (mEx q f) := fun v G G' ⟨x, h1, h2⟩ => ⟨x, h1, h x v G G' h2⟩
theorem EN.focusL {i j : Nat} (hp : Γ[i]? = some (some (tR p))) (hj : M[j]? = some (p, mL ts)) (h : EN te (Γ.set i (some (tL ts))) [] m) (ht : FlatM m) : EN te Γ M m := fun F B σ H G s g Q q => by
  obtain ⟨hF, _, o, h3, vs, h4, h5⟩ := s.mm p _ (List.mem_of_getElem? hj)
  subst h4
  have hg : G p = none := (s.mm p _ (List.mem_of_getElem? hj)).2.1
  obtain ⟨a1, a2, a3, a4⟩ := focus_core (t := tL ts) hp hj s g h3 ⟨p, vs, rfl, upd_same, h5.mono (Er.grow hg)⟩
  refine h _ B σ H _ a1 a3 Q fun r H' G' s' e' => ?_
  obtain ⟨k1, k2, o, k3, k4⟩ := s'.mm r m (List.mem_cons_self ..)
  obtain ⟨b1, b2⟩ := a4 s'.tail e'
  have rp : r ≠ p := fun e => by
    subst e
    have := e' r _ upd_same
    rw [k2] at this
    cases this
  have rM : r ∉ M.map (·.1) := fun z => by
    obtain ⟨⟨b, n⟩, z1, z2⟩ := List.mem_map.mp z
    have z3 : b = r := z2
    subst z3
    have z4 := (perm_at hj).mem_iff.mp z1
    rcases List.mem_cons.mp z4 with z4 | z4
    · cases z4
      exact rp rfl
    · obtain ⟨_, _, o', y3, _⟩ := s.mm _ n z1
      rw [hid_in z4, y3] at k1
      cases k1
  exact q r H' _ ⟨b1.er, b1.eb, b1.fr, fun a n z => by
    rcases List.mem_cons.mp z with z | z
    · cases z
      refine ⟨?_, by rw [rem_ne rp]; exact k2, o, k3, ht _ _ _ k4⟩
      cases w : F r with
      | none => rfl
      | some u =>
        rw [hid_out (s.perm (perm_at hj).symm |>.tail) w] at k1
        cases k1
    · exact b1.mm a n z, List.nodup_cons.mpr ⟨rM, s.nd⟩⟩ b2
/-- a new list, a new tuple .. frozen at once -/
theorem EN.l (h : EN te Γ M (mL ts)) : E te Γ M (tL ts) := fun F B σ H G s g Q q => h F B σ H G s g Q fun p H' G' s' e' => by
  obtain ⟨_, k2, o, k3, vs, k4, k5⟩ := s'.mm p _ (List.mem_cons_self ..)
  subst k4
  obtain ⟨s2, e2⟩ := s'.frz0 k3
  exact q _ H' _ s2 (e'.trans e2) ⟨p, vs, rfl, upd_same, k5.mono e2⟩
theorem EN.lx {α : Type} {φ : α → Prop} {f : α → List Ty} (h : EN te Γ M (mEx φ fun x => mL (f x))) : E te Γ M (tEx φ fun x => tL (f x)) := fun F B σ H G s g Q q => h F B σ H G s g Q fun p H' G' s' e' => by
  obtain ⟨_, k2, o, k3, x, kx, vs, k4, k5⟩ := s'.mm p _ (List.mem_cons_self ..)
  subst k4
  obtain ⟨s2, e2⟩ := s'.frz0 k3
  exact q _ H' _ s2 (e'.trans e2) ⟨x, kx, p, vs, rfl, upd_same, k5.mono e2⟩

/-! ### names, constants -/
theorem e_var {i : Nat} (h : Γ[i]? = some (some t)) : E (tVar i) Γ M t := fun F B σ H G s g Q q => by
  obtain ⟨v, e, a⟩ := g.get h
  exact ⟨v, e, q v H G s (Er.refl G) a⟩
theorem e_c : E (tC v) Γ M (tV v) := fun F B σ H G s g Q q => q v H G s (Er.refl G) rfl
theorem e_c' (h : t = tV v) : E (tC v) Γ M t := e_c.to h.symm

/-! ### operators -/
theorem e_op0 {f : Int → Int → V} {i j : Int} (ha : E ta Γ M (tI i)) (hb : E tb Γ M (tI j)) : E (tOp (rI0 f) ta tb) Γ M (tV (f i j)) := fun F B σ H G s g Q q =>
  ha F B σ H G s g _ fun v1 H1 G1 s1 e1 a1 => hb F B σ H1 G1 s1 (g.mono e1) _ fun v2 H2 G2 s2 e2 a2 => ⟨i, j, a1, a2, q _ H2 G2 s2 (e1.trans e2) rfl⟩
theorem e_opC {C : Int → Int → Prop} {f : Int → Int → V} {i j : Int} (ha : E ta Γ M (tI i)) (hb : E tb Γ M (tI j)) (hc : C i j) : E (tOp (rI C f) ta tb) Γ M (tV (f i j)) := fun F B σ H G s g Q q =>
  ha F B σ H G s g _ fun v1 H1 G1 s1 e1 a1 => hb F B σ H1 G1 s1 (g.mono e1) _ fun v2 H2 G2 s2 e2 a2 => ⟨i, j, a1, a2, hc, q _ H2 G2 s2 (e1.trans e2) rfl⟩
theorem e_eq (ha : E ta Γ M (tV x)) (hb : E tb Γ M (tV y)) (hs : scal x y = true) : E (tOp rEq ta tb) Γ M (tB (decide (x = y))) := fun F B σ H G s g Q q =>
  ha F B σ H G s g _ fun v1 H1 G1 s1 e1 a1 => hb F B σ H1 G1 s1 (g.mono e1) _ fun v2 H2 G2 s2 e2 a2 => by
    have e3 : v1 = x := a1
    have e4 : v2 = y := a2
    subst e3 e4
    exact ⟨hs, q _ H2 G2 s2 (e1.trans e2) rfl⟩
theorem e_ne (ha : E ta Γ M (tV x)) (hb : E tb Γ M (tV y)) (hs : scal x y = true) : E (tOp rNe ta tb) Γ M (tB (!decide (x = y))) := fun F B σ H G s g Q q =>
  ha F B σ H G s g _ fun v1 H1 G1 s1 e1 a1 => hb F B σ H1 G1 s1 (g.mono e1) _ fun v2 H2 G2 s2 e2 a2 => by
    have e3 : v1 = x := a1
    have e4 : v2 = y := a2
    subst e3 e4
    exact ⟨hs, q _ H2 G2 s2 (e1.trans e2) rfl⟩
def rIsNone : R2 := fun x y H Q => y = .non ∧ Q (.bl (decide (x = .non))) H
def rNotNone : R2 := fun x y H Q => y = .non ∧ Q (.bl (!decide (x = .non))) H
theorem op_isNone {X : Cx} : OpR X (compareOp .Is) rIsNone := op_isN
theorem op_notNone {X : Cx} : OpR X (compareOp .IsNot) rNotNone := op_notN
theorem e_isNone (ha : E ta Γ M t) {b : Bool} (h : ∀ v G, t.at_ v G → decide (v = .non) = b) : E (tOp rIsNone ta (tC .non)) Γ M (tB b) := fun F B σ H G s g Q q =>
  ha F B σ H G s g _ fun v1 H1 G1 s1 e1 a1 => ⟨rfl, by rw [h v1 G1 a1]; exact q _ H1 G1 s1 e1 rfl⟩
theorem e_notNone (ha : E ta Γ M t) {b : Bool} (h : ∀ v G, t.at_ v G → decide (v = .non) = !b) : E (tOp rNotNone ta (tC .non)) Γ M (tB b) := fun F B σ H G s g Q q =>
  ha F B σ H G s g _ fun v1 H1 G1 s1 e1 a1 => ⟨rfl, by rw [h v1 G1 a1, Bool.not_not]; exact q _ H1 G1 s1 e1 rfl⟩
theorem e_neg {i : Int} (ha : E ta Γ M (tI i)) : E (tUn (rU fun i => .int (-i)) ta) Γ M (tI (-i)) := fun F B σ H G s g Q q =>
  ha F B σ H G s g _ fun v1 H1 G1 s1 e1 a1 => ⟨i, a1, q _ H1 G1 s1 e1 rfl⟩
theorem at_vs {G : Hp} : ∀ {vs ws : List V}, At (vs.map tV) ws G → ws = vs
  | [], [], _ => rfl
  | v :: vs, w :: ws, h => by
    have e1 : w = v := h.1
    rw [e1, at_vs (vs := vs) h.2]
  | [], _ :: _, h => h.elim
  | _ :: _, [], h => h.elim
/-- x in a list or tuple of flat values -/
theorem e_in {neg tup : Bool} {vs : List V} (ha : E ta Γ M (tV x)) (hb : E tb Γ M (tSq tup (vs.map tV))) (hx : flatV x = true) (hv : vs.all flatV = true) : E (tOp (rIn K neg) ta tb) Γ M (tB (if neg then !inV x vs else inV x vs)) := fun F B σ H G s g Q q =>
  ha F B σ H G s g _ fun v1 H1 G1 s1 e1 a1 => hb F B σ H1 G1 s1 (g.mono e1) _ fun v2 H2 G2 s2 e2 a2 => by
    have e3 : v1 = x := a1
    subst e3
    obtain ⟨a, ws, rfl, ea, aw⟩ := a2
    have ew : ws = vs := by
      exact at_vs aw
    subst ew
    refine ⟨a, ws, rfl, ?_, hx, hv, q _ H2 G2 s2 (e1.trans e2) rfl⟩
    cases tup with
    | true => exact Or.inr (SqT.of (s2.er a _ ea))
    | false => exact Or.inl (SqL.of (s2.er a _ ea))

/-! ### tests -/
theorem et_test {b : Bool} (h : E te Γ M (tB b)) : ETb (tTest te) Γ M b := fun F B σ H G s g Q q => h F B σ H G s g _ fun v H' G' s' e' a => ⟨b, a, q b H' G' s' e' rfl⟩
theorem et_B {b : Bool} (h : E te Γ M (tB b)) : ETb (L2.tB te) Γ M b := fun F B σ H G s g Q q => h F B σ H G s g _ fun v H' G' s' e' a => ⟨b, a, q b H' G' s' e' rfl⟩
theorem et_Bx {φ : Bool → Prop} (h : E te Γ M (tEx φ fun b => tB b)) : ET (L2.tB te) Γ M φ := fun F B σ H G s g Q q => h F B σ H G s g _ fun v H' G' s' e' a => by
  obtain ⟨b, hb, a⟩ := a
  exact ⟨b, a, q b H' G' s' e' hb⟩
theorem et_testx {φ : Bool → Prop} (h : E te Γ M (tEx φ fun b => tB b)) : ET (tTest te) Γ M φ := fun F B σ H G s g Q q => h F B σ H G s g _ fun v H' G' s' e' a => by
  obtain ⟨b, hb, a⟩ := a
  exact ⟨b, a, q b H' G' s' e' hb⟩
theorem et_not {b : Bool} (h : ETb tt Γ M b) : ETb (tNot tt) Γ M (!b) := fun F B σ H G s g Q q => h F B σ H G s g _ fun c H' G' s' e' a => q _ H' G' s' e' (by rw [a])
theorem et_notx {φ : Bool → Prop} (h : ET tt Γ M φ) : ET (tNot tt) Γ M (fun b => φ (!b)) := fun F B σ H G s g Q q => h F B σ H G s g _ fun c H' G' s' e' a => q _ H' G' s' e' (show φ (!(!c)) by rw [Bool.not_not]; exact a)
theorem et_and {b c : Bool} (h : ETb tt Γ M b) (k : b = true → ETb tu Γ M c) : ETb (tAnd tt tu) Γ M (b && c) := fun F B σ H G s g Q q => h F B σ H G s g _ fun b' H' G' s' e' a => by
  subst a
  cases b' with
  | true =>
    show tu σ H' Q
    exact k rfl F B σ H' G' s' (g.mono e') Q fun c' H2 G2 s2 e2 a2 => q _ H2 G2 s2 (e'.trans e2) (by rw [a2, Bool.true_and])
  | false =>
    show Q false H'
    exact q _ H' G' s' e' rfl
theorem et_or {b c : Bool} (h : ETb tt Γ M b) (k : b = false → ETb tu Γ M c) : ETb (tOr tt tu) Γ M (b || c) := fun F B σ H G s g Q q => h F B σ H G s g _ fun b' H' G' s' e' a => by
  subst a
  cases b' with
  | false =>
    show tu σ H' Q
    exact k rfl F B σ H' G' s' (g.mono e') Q fun c' H2 G2 s2 e2 a2 => q _ H2 G2 s2 (e'.trans e2) (by rw [a2, Bool.false_or])
  | true =>
    show Q true H'
    exact q _ H' G' s' e' rfl
theorem et_andx {φ ψ : Bool → Prop} {b : Bool} (h : ETb tt Γ M b) (k : b = true → ET tu Γ M ψ) (h0 : b = false → φ false) (h1 : ∀ c, b = true → ψ c → φ c) : ET (tAnd tt tu) Γ M φ := fun F B σ H G s g Q q => h F B σ H G s g _ fun b' H' G' s' e' a => by
  subst a
  cases b' with
  | true =>
    show tu σ H' Q
    exact k rfl F B σ H' G' s' (g.mono e') Q fun c' H2 G2 s2 e2 a2 => q _ H2 G2 s2 (e'.trans e2) (h1 c' rfl a2)
  | false =>
    show Q false H'
    exact q _ H' G' s' e' (h0 rfl)
theorem e_andV {b c : Bool} (h : E ta Γ M (tB b)) (k : b = true → E tb Γ M (tB c)) : E (tAndV ta tb) Γ M (tB (b && c)) := fun F B σ H G s g Q q => h F B σ H G s g _ fun v H' G' s' e' a => by
  refine ⟨b, a, ?_⟩
  cases b with
  | true =>
    show tb σ H' Q
    exact k rfl F B σ H' G' s' (g.mono e') Q fun c' H2 G2 s2 e2 a2 => q _ H2 G2 s2 (e'.trans e2) (by rw [Bool.true_and]; exact a2)
  | false =>
    show Q (.bl false) H'
    exact q _ H' G' s' e' rfl
theorem e_orV {b c : Bool} (h : E ta Γ M (tB b)) (k : b = false → E tb Γ M (tB c)) : E (tOrV ta tb) Γ M (tB (b || c)) := fun F B σ H G s g Q q => h F B σ H G s g _ fun v H' G' s' e' a => by
  refine ⟨b, a, ?_⟩
  cases b with
  | false =>
    show tb σ H' Q
    exact k rfl F B σ H' G' s' (g.mono e') Q fun c' H2 G2 s2 e2 a2 => q _ H2 G2 s2 (e'.trans e2) (by rw [Bool.false_or]; exact a2)
  | true =>
    show Q (.bl true) H'
    exact q _ H' G' s' e' rfl
theorem e_notV {b : Bool} (h : E ta Γ M (tB b)) : E (tNotV ta) Γ M (tB (!b)) := fun F B σ H G s g Q q => h F B σ H G s g _ fun v H' G' s' e' a => ⟨b, a, q _ H' G' s' e' rfl⟩
theorem e_if {φ : Bool → Prop} (h : ET tt Γ M φ) (h1 : φ true → E ta Γ M t) (h2 : φ false → E tb Γ M t) : E (tIf tt ta tb) Γ M t := fun F B σ H G s g Q q => h F B σ H G s g _ fun b H' G' s' e' a => by
  cases b with
  | true => exact h1 a F B σ H' G' s' (g.mono e') Q fun v H2 G2 s2 e2 a2 => q v H2 G2 s2 (e'.trans e2) a2
  | false => exact h2 a F B σ H' G' s' (g.mono e') Q fun v H2 G2 s2 e2 a2 => q v H2 G2 s2 (e'.trans e2) a2
theorem en_if {φ : Bool → Prop} (h : ET tt Γ M φ) (h1 : φ true → EN ta Γ M m) (h2 : φ false → EN tb Γ M m) : EN (tIf tt ta tb) Γ M m := fun F B σ H G s g Q q => h F B σ H G s g _ fun b H' G' s' e' a => by
  cases b with
  | true => exact h1 a F B σ H' G' s' (g.mono e') Q fun v H2 G2 s2 e2 => q v H2 G2 s2 (e'.trans e2)
  | false => exact h2 a F B σ H' G' s' (g.mono e') Q fun v H2 G2 s2 e2 => q v H2 G2 s2 (e'.trans e2)

/-! ### arguments, displays -/
theorem ea_nil : EA tNil Γ M [] := fun F B σ H G s g Q q => q [] H G s (Er.refl G) trivial
theorem ea_cons {tr : TA} (h : E te Γ M t) (k : EA tr Γ M ts) : EA (tCons te tr) Γ M (t :: ts) := fun F B σ H G s g Q q =>
  h F B σ H G s g _ fun v H1 G1 s1 e1 a1 => k F B σ H1 G1 s1 (g.mono e1) _ fun vs H2 G2 s2 e2 a2 => q _ H2 G2 s2 (e1.trans e2) ⟨t.mono e2 a1, a2⟩
theorem sz5 {n : Nat} (h : n ≤ 100000) : n ≤ sizeLine := Nat.le_trans h (by decide)
theorem sz6 {n : Nat} (h : n < 100000) : n < sizeLine := Nat.lt_of_lt_of_le h (by decide)
theorem e_tup {ta : TA} (h : EA ta Γ M ts) (hl : ts.length ≤ 100000) : E (tTup ta) Γ M (tT ts) := fun F B σ H G s g Q q =>
  h F B σ H G s g _ fun vs H1 G1 s1 e1 a1 => ⟨sz5 (by rw [a1.length]; exact hl), fun p hp => by
    obtain ⟨s2, e2⟩ := s1.new (o := .tup vs) hp
    exact q _ _ _ s2 (e1.trans e2) ⟨p, vs, rfl, upd_same, a1.mono e2⟩⟩
theorem en_lst {ta : TA} (h : EA ta Γ M ts) (hl : ts.length ≤ 100000) : EN (tLst ta) Γ M (mL ts) := fun F B σ H G s g Q q =>
  h F B σ H G s g _ fun vs H1 G1 s1 e1 a1 => ⟨sz5 (by rw [a1.length]; exact hl), fun p hp => q p _ _ (s1.newM hp ⟨vs, rfl, a1⟩) e1⟩
theorem en_dnew : EN tDNewK Γ M (mD []) := fun F B σ H G s g Q q p hp => q p _ G (s.newM hp ⟨[], rfl, trivial⟩) (Er.refl G)
theorem en_dnewT : EN tDNewT Γ M (mDT []) := fun F B σ H G s g Q q p hp => q p _ G (s.newM hp ⟨[], rfl, trivial⟩) (Er.refl G)

/-! ### subscripts, slices -/
theorem e_ixL {i : Int} (ha : E ta Γ M (tL ts)) (hb : E tb Γ M (tI i)) (h : atI ts i = some t) : E (tOp (rIxL K) ta tb) Γ M t := fun F B σ H G s g Q q =>
  ha F B σ H G s g _ fun v1 H1 G1 s1 e1 a1 => hb F B σ H1 G1 s1 (g.mono e1) _ fun v2 H2 G2 s2 e2 a2 => by
    obtain ⟨a, vs, rfl, ea, av⟩ := a1
    unfold atI at h
    cases hj : ixN ts.length i with
    | none => rw [hj] at h; cases h
    | some j =>
      rw [hj] at h
      obtain ⟨v, hv, tv⟩ := av.get h
      refine ⟨a, vs, i, v, rfl, a2, SqL.of (s2.er a _ (e2 a _ ea)), ?_, q v H2 G2 s2 (e1.trans e2) (t.mono e2 tv)⟩
      unfold atI
      rw [av.length, hj]
      exact hv
theorem e_ixT {i : Int} (ha : E ta Γ M (tT ts)) (hb : E tb Γ M (tI i)) (h : atI ts i = some t) : E (tOp (rIxT K) ta tb) Γ M t := fun F B σ H G s g Q q =>
  ha F B σ H G s g _ fun v1 H1 G1 s1 e1 a1 => hb F B σ H1 G1 s1 (g.mono e1) _ fun v2 H2 G2 s2 e2 a2 => by
    obtain ⟨a, vs, rfl, ea, av⟩ := a1
    unfold atI at h
    cases hj : ixN ts.length i with
    | none => rw [hj] at h; cases h
    | some j =>
      rw [hj] at h
      obtain ⟨v, hv, tv⟩ := av.get h
      refine ⟨a, vs, i, v, rfl, a2, SqT.of (s2.er a _ (e2 a _ ea)), ?_, q v H2 G2 s2 (e1.trans e2) (t.mono e2 tv)⟩
      unfold atI
      rw [av.length, hj]
      exact hv
/-- of a list or a tuple -/
theorem e_ix {tup : Bool} {i : Int} (ha : E ta Γ M (tSq tup ts)) (hb : E tb Γ M (tI i)) (h : atI ts i = some t) : E (tOp (rIx K) ta tb) Γ M t := fun F B σ H G s g Q q =>
  ha F B σ H G s g _ fun v1 H1 G1 s1 e1 a1 => hb F B σ H1 G1 s1 (g.mono e1) _ fun v2 H2 G2 s2 e2 a2 => by
    obtain ⟨a, vs, rfl, ea, av⟩ := a1
    unfold atI at h
    cases hj : ixN ts.length i with
    | none => rw [hj] at h; cases h
    | some j =>
      rw [hj] at h
      obtain ⟨v, hv, tv⟩ := av.get h
      have hat : atI vs i = some v := by
        unfold atI
        rw [av.length, hj]
        exact hv
      have hq := q v H2 G2 s2 (e1.trans e2) (t.mono e2 tv)
      cases tup with
      | true => exact Or.inr (Or.inl ⟨a, vs, i, v, rfl, a2, SqT.of (s2.er a _ (e2 a _ ea)), hat, hq⟩)
      | false => exact Or.inl ⟨a, vs, i, v, rfl, a2, SqL.of (s2.er a _ (e2 a _ ea)), hat, hq⟩
def EO (to : TO) (Γ : Gam) (M : List Mut1) (o : Option Int) : Prop := ∀ F B σ H G, Hs F B M H G → Sl Γ σ G → ∀ Q : Option Int → Hp → Prop, (∀ H' G', Hs F B M H' G' → Er G G' → Q o H') → to σ H Q
theorem eo_none : EO tNoPart Γ M none := fun F B σ H G s g Q q => q H G s (Er.refl G)
theorem eo_some {i : Int} (h : E te Γ M (tI i)) : EO (tPart te) Γ M (some i) := fun F B σ H G s g Q q => h F B σ H G s g _ fun v H1 G1 s1 e1 a1 => ⟨i, a1, q H1 G1 s1 e1⟩
def cutA {α : Type} (xs : List α) (lo hi : Option Int) : List α := (xs.drop (HT.sIx xs.length 0 lo)).take (HT.sIx xs.length xs.length hi - HT.sIx xs.length 0 lo)
theorem cut_at {G : Hp} {vs : List V} {lo hi : Option Int} (h : At ts vs G) : At (cutA ts lo hi) (cutV vs lo hi) G := by
  unfold cutV cutA
  rw [h.length]
  exact (h.drop _).take _
theorem en_slL {tl th : TO} {lo hi : Option Int} (h : E te Γ M (tL ts)) (h1 : EO tl Γ M lo) (h2 : EO th Γ M hi) : EN (tSl (rSlL K) te tl th) Γ M (mL (cutA ts lo hi)) := fun F B σ H G s g Q q =>
  h F B σ H G s g _ fun v H1 G1 s1 e1 a1 => h1 F B σ H1 G1 s1 (g.mono e1) _ fun H2 G2 s2 e2 => h2 F B σ H2 G2 s2 ((g.mono e1).mono e2) _ fun H3 G3 s3 e3 => by
    obtain ⟨a, vs, rfl, ea, av⟩ := a1
    refine ⟨a, vs, rfl, SqL.of (s3.er a _ (e3 a _ (e2 a _ ea))), fun p hp => ?_⟩
    exact q p _ G3 (s3.newM hp ⟨_, rfl, cut_at ((av.mono e2).mono e3)⟩) ((e1.trans e2).trans e3)
theorem e_slT {tl th : TO} {lo hi : Option Int} (h : E te Γ M (tT ts)) (h1 : EO tl Γ M lo) (h2 : EO th Γ M hi) : E (tSl (rSlA K) te tl th) Γ M (tT (cutA ts lo hi)) := fun F B σ H G s g Q q =>
  h F B σ H G s g _ fun v H1 G1 s1 e1 a1 => h1 F B σ H1 G1 s1 (g.mono e1) _ fun H2 G2 s2 e2 => h2 F B σ H2 G2 s2 ((g.mono e1).mono e2) _ fun H3 G3 s3 e3 => by
    obtain ⟨a, vs, rfl, ea, av⟩ := a1
    have ea3 := e3 a _ (e2 a _ ea)
    have av3 := (av.mono e2).mono e3
    refine ⟨a, vs, rfl, SqT.of (s3.er a _ ea3), fun hw => ?_, fun _ p hp => ?_⟩
    · refine q _ H3 G3 s3 ((e1.trans e2).trans e3) ⟨a, vs, rfl, ea3, ?_⟩
      have ec : cutA ts lo hi = ts := by
        unfold cutA
        rw [← av.length, hw.1, hw.2, Nat.sub_zero, List.drop_zero, av.length, List.take_length]
      rw [ec]
      exact av3
    · obtain ⟨s4, e4⟩ := s3.new (o := .tup (cutV vs lo hi)) hp
      exact q _ _ _ s4 (((e1.trans e2).trans e3).trans e4) ⟨p, _, rfl, upd_same, (cut_at av3).mono e4⟩
theorem en_rev (h : E te Γ M (tL ts)) : EN (tRevL K te) Γ M (mL ts.reverse) := fun F B σ H G s g Q q =>
  h F B σ H G s g _ fun v H1 G1 s1 e1 a1 => by
    obtain ⟨a, vs, rfl, ea, av⟩ := a1
    exact ⟨a, vs, rfl, SqL.of (s1.er a _ ea), fun p hp => q p _ G1 (s1.newM hp ⟨_, rfl, av.reverse⟩) e1⟩
theorem en_cat (ha : E ta Γ M (tL ts)) (hb : E tb Γ M (tL us)) (hl : ts.length + us.length ≤ 100000) : EN (tOp rCat ta tb) Γ M (mL (ts ++ us)) := fun F B σ H G s g Q q =>
  ha F B σ H G s g _ fun v1 H1 G1 s1 e1 a1 => hb F B σ H1 G1 s1 (g.mono e1) _ fun v2 H2 G2 s2 e2 a2 => by
    obtain ⟨a, vs, rfl, ea, av⟩ := a1
    obtain ⟨b, ws, rfl, eb, aw⟩ := a2
    exact ⟨a, b, vs, ws, rfl, rfl, s2.er a _ (e2 a _ ea), s2.er b _ eb, sz5 (by rw [av.length, aw.length]; exact hl), fun p hp => q p _ G2 (s2.newM hp ⟨_, rfl, (av.mono e2).append aw⟩) (e1.trans e2)⟩
theorem en_rep {n : Nat} (ha : E ta Γ M (tL [t])) (hb : E tb Γ M (tn n)) (hl : n ≤ 100000) : EN (tOp rRep ta tb) Γ M (mL (List.replicate n t)) := fun F B σ H G s g Q q =>
  ha F B σ H G s g _ fun v1 H1 G1 s1 e1 a1 => hb F B σ H1 G1 s1 (g.mono e1) _ fun v2 H2 G2 s2 e2 a2 => by
    obtain ⟨a, vs, rfl, ea, av⟩ := a1
    have l := av.length
    obtain ⟨w, rfl⟩ : ∃ w, vs = [w] := by
      match vs, l with
      | [w], _ => exact ⟨w, rfl⟩
    refine ⟨a, (n : Int), [w], rfl, a2, s2.er a _ (e2 a _ ea), by omega, by omega, sz5 (by simp; omega), fun p hp => ?_⟩
    refine q p _ G2 (s2.newM hp ⟨List.replicate n w, ?_, At.replicate (t.mono e2 av.1) n⟩) (e1.trans e2)
    have e0 : ((n : Int)).toNat = n := by omega
    rw [e0]
    congr 1
    clear e0 a2 hb hl q
    induction n with
    | zero => rfl
    | succ n ih => rw [List.replicate_succ, List.replicate_succ, List.flatten_cons, ih]; rfl

/-! ### attributes, calls -/
theorem AtD.look {G : Hp} {f : Str} : ∀ {as : List (Str × Ty)} {fs : List (Str × V)}, AtD as fs G → dLook f as = some t → ∃ v, fs.lookup f = some v ∧ t.at_ v G
  | [], [], _, e => by cases e
  | a :: as, b :: fs, h, e => by
    obtain ⟨k, w⟩ := b
    have hk : k = a.1 := h.1
    unfold dLook at e
    by_cases z : a.1 = f
    · rw [if_pos z] at e
      cases e
      refine ⟨w, ?_, h.2.1⟩
      rw [List.lookup_cons, hk, z]
      simp
    · rw [if_neg z] at e
      obtain ⟨v, e1, e2⟩ := AtD.look h.2.2 e
      refine ⟨v, ?_, e2⟩
      have zb : (f == k) = false := by
        rw [hk]
        exact beq_eq_false_iff_ne.mpr fun q => z q.symm
      rw [List.lookup_cons, zb]
      exact e1
  | [], _ :: _, h, _ => h.elim
  | _ :: _, [], h, _ => h.elim
theorem AtD.no {G : Hp} {f : Str} : ∀ {as : List (Str × Ty)} {fs : List (Str × V)}, AtD as fs G → dLook f as = none → fs.lookup f = none
  | [], [], _, _ => rfl
  | a :: as, b :: fs, h, e => by
    obtain ⟨k, w⟩ := b
    have hk : k = a.1 := h.1
    unfold dLook at e
    by_cases z : a.1 = f
    · rw [if_pos z] at e
      cases e
    · rw [if_neg z] at e
      have zb : (f == k) = false := by
        rw [hk]
        exact beq_eq_false_iff_ne.mpr fun q => z q.symm
      rw [List.lookup_cons, zb]
      exact AtD.no h.2.2 e
  | [], _ :: _, h, _ => h.elim
  | _ :: _, [], h, _ => h.elim
theorem e_fld {C : Addr} {as : List (Str × Ty)} {f : Str} (h : E ta Γ M (tO C as)) (c : Cls K C) (n : NoAttr K C f) (hf : dLook f as = some t) : E (tFld K ta f) Γ M t := fun F B σ H G s g Q q =>
  h F B σ H G s g _ fun v H1 G1 s1 e1 a1 => by
    obtain ⟨a, dx, fs, rfl, ea, af⟩ := a1
    obtain ⟨v, l, tv⟩ := af.look hf
    exact ⟨a, C, dx, fs, v, rfl, s1.er a _ ea, c, n, l, q v H1 G1 s1 e1 tv⟩
/-- what a call's end is worth -/
def Ret (F B : Hp) (t : Ty) (Q : VK) : Prop := ∀ v H G, Er B G → Er G H → (∀ a o, F a = some o → H a = some o ∧ G a = none) → t.at_ v G → Q v H
/-- what may change and is not frozen -/
def frm (G H : Hp) : Hp := fun a => match G a with
  | some _ => none
  | none => H a
theorem frm_of {G H : Hp} {a : Addr} {o : HO} (h : G a = none) (h' : H a = some o) : frm G H a = some o := by
  unfold frm
  rw [h]
  exact h'
theorem of_frm {G H : Hp} {a : Addr} {o : HO} (h : frm G H a = some o) : G a = none ∧ H a = some o := by
  unfold frm at h
  cases e : G a with
  | none =>
    rw [e] at h
    exact ⟨rfl, h⟩
  | some u =>
    rw [e] at h
    cases h
/-- a promise: arguments typed as, a result typed r; what may change and was known stands -/
def spT {α : Type} (as : α → List Ty) (r : α → Ty) : Sp := fun vs H Q _ => ∃ (x : α) (G : Hp), Er G H ∧ At (as x) vs G ∧ Ret (frm G H) G (r x) Q
theorem e_sp {α : Type} {as : α → List Ty} {r : α → Ty} (x : α) {F B H G : Hp} (s : Hs F B M H G) {vs : List V} (a : At (as x) vs G) {Q : VK} {E0 : XK} (q : ∀ v H' G', Hs F B M H' G' → Er G G' → (r x).at_ v G' → Q v H') : spT as r vs H Q E0 :=
  ⟨x, G, s.er, a, fun v H' G' e1 e2 f tv => q v H' G' (s.frm e1 e2 fun b o h1 h2 => f b o (frm_of h1 h2)) e1 tv⟩
theorem e_call {α : Type} {as : α → List Ty} {r : α → Ty} {E0 : XK} {ta : TA} (x : α) (h : EA ta Γ M (as x)) : E (tCall (spT as r) [] E0 ta) Γ M (r x) := fun F B σ H G s g Q q =>
  h F B σ H G s g _ fun vs H1 G1 s1 e1 a1 => by
    rw [List.append_nil]
    exact e_sp x s1 a1 fun v H' G' s' e' a' => q v H' G' s' (e1.trans e') a'
theorem e_meth {α : Type} {as : α → List Ty} {r : α → Ty} {E0 : XK} {ta : TA} {te : TE} {C : Addr} {f : Str} {at1 : List (Str × Ty)} {ts : List Ty} (x : α) (ho : E te Γ M (tO C at1)) (h : EA ta Γ M ts) (hx : as x = tO C at1 :: ts) (hn : dLook f at1 = none) : E (tMeth C f (spT as r) [] E0 te ta) Γ M (r x) := fun F B σ H G s g Q q =>
  ho F B σ H G s g _ fun v0 H0 G0 s0 e0 a0 => by
    obtain ⟨a, dx, fs, rfl, ea, af⟩ := id a0
    refine ⟨a, dx, fs, rfl, s0.er a _ ea, af.no hn, ?_⟩
    refine h F B σ H0 G0 s0 (g.mono e0) _ fun vs H1 G1 s1 e1 a1 => ?_
    rw [List.append_nil]
    refine e_sp x s1 ?_ fun v H' G' s' e' a' => q v H' G' s' ((e0.trans e1).trans e') a'
    rw [hx]
    exact ⟨(tO C at1).mono e1 a0, a1⟩
theorem e_prop {α : Type} {as : α → List Ty} {r : α → Ty} {E0 : XK} {te : TE} {C : Addr} {at1 : List (Str × Ty)} (x : α) (ho : E te Γ M (tO C at1)) (hx : as x = [tO C at1]) : E (tProp C (spT as r) [] E0 te) Γ M (r x) := fun F B σ H G s g Q q =>
  ho F B σ H G s g _ fun v0 H0 G0 s0 e0 a0 => by
    obtain ⟨a, dx, fs, rfl, ea, af⟩ := id a0
    refine ⟨a, dx, fs, rfl, s0.er a _ ea, ?_⟩
    refine e_sp x s0 ?_ fun v H' G' s' e' a' => q v H' G' s' (e0.trans e') a'
    rw [hx]
    exact ⟨a0, trivial⟩
end
end K89
set_option Elab.async false
set_option linter.all false
set_option maxRecDepth 100000
set_option maxHeartbeats 4000000
/-! K89N: statements, loops, comprehensions, dicts over the typed layer. -/
namespace K89
open PySem L2
section
variable {F B : Hp} {Γ : Gam} {M : List Mut1} {ta tb tc te : TE} {tt : TT} {t u : Ty} {ts us : List Ty} {K : PySem.W.Frag} {p : Addr} {m : MTy} {nx bk ct : St → Hp → Prop} {rt : VK} {s1 s2 : TS} {P : St → Hp → Prop}

theorem N.to {Γ' : Gam} (h : N P F B Γ' M) (e : Γ = Γ') : N P F B Γ M := e ▸ h
theorem N.base {B' : Hp} (h : N P F B Γ M) (e : Er B B') : N P F B' Γ M := fun σ H G s g => h σ H G (s.base e) g
theorem N.toM {M' : List Mut1} (h : N P F B Γ M') (e : M = M') : N P F B Γ M := e ▸ h
theorem N.drop {q : Mut1} (h : N P F B Γ M) : N P F B Γ (q :: M) := fun σ H G s g => h σ H G s.tail g
theorem Ret.base {B' : Hp} {Q : VK} (h : Ret F B t Q) (e : Er B B') : Ret F B' t Q := fun v H G e1 e2 f a => h v H G (e.trans e1) e2 f a
/-- what a slot holds, opened -/
theorem n_ex {α : Type} {q : α → Prop} {f : α → Ty} {i : Nat} (hi : Γ[i]? = some (some (tEx q f))) (h : ∀ x, q x → N P F B (Γ.set i (some (f x))) M) : N P F B Γ M := fun σ H G s g => by
  obtain ⟨v, g1, x, g2, g3⟩ := g.get hi
  exact h x g2 σ H G s (g.ty g1 g3)
/-- another type for a slot -/
theorem n_ty {i : Nat} (hi : Γ[i]? = some (some t)) (e : ∀ v G, t.at_ v G → u.at_ v G) (h : N P F B (Γ.set i (some u)) M) : N P F B Γ M := fun σ H G s g => by
  obtain ⟨v, g1, g2⟩ := g.get hi
  exact h σ H G s (g.ty g1 (e v G g2))
/-- one of ours, opened -/
theorem n_exM {α : Type} {q : α → Prop} {f : α → MTy} {j : Nat} (hj : M[j]? = some (p, mEx q f)) (h : ∀ x, q x → N P F B Γ (M.set j (p, f x)) ) : N P F B Γ M := fun σ H G s g => by
  obtain ⟨h1, h2, o, h3, x, hx, h4⟩ := s.mm p _ (List.mem_of_getElem? hj)
  have s' := s.put (m' := f x) (o := o) hj h4
  have e : upd H p o = H := by
    funext a
    by_cases z : a = p
    · rw [z, upd_same, h3]
    · rw [upd_ne z]
  rw [e] at s'
  exact h x hx σ H G s' g
/-- one of ours, a list, frozen for good -/
theorem n_frz {i j : Nat} (hi : Γ[i]? = some (some (tR p))) (hj : M[j]? = some (p, mL ts)) (h : N P F B (Γ.set i (some (tL ts))) (M.eraseIdx j)) : N P F B Γ M := fun σ H G s g => by
  have s0 := s.perm (perm_at hj).symm
  obtain ⟨h1, h2, o, h3, vs, h4, h5⟩ := s0.mm p _ (List.mem_cons_self ..)
  subst h4
  obtain ⟨s1, e1⟩ := s0.frz0 h3
  obtain ⟨w, g1, g2⟩ := g.get hi
  have g2' : w = .ref p := g2
  subst g2'
  exact h σ H _ s1 ((g.mono e1).ty g1 ⟨p, vs, rfl, upd_same, h5.mono e1⟩)

/-! ### statements -/
theorem n_seq (h : N (s1 ⟨s2 ⟨nx, rt, bk, ct⟩, rt, bk, ct⟩) F B Γ M) : N (tSeq s1 s2 ⟨nx, rt, bk, ct⟩) F B Γ M := h
theorem n_next (h : N nx F B Γ M) : N (tNext ⟨nx, rt, bk, ct⟩) F B Γ M := h
theorem n_brk (h : N bk F B Γ M) : N (tBreak ⟨nx, rt, bk, ct⟩) F B Γ M := h
theorem n_asg {i : Nat} (h : E te Γ M t) (k : N nx F B (Γ.set i (some t)) M) : N (tAsg te (gName i) ⟨nx, rt, bk, ct⟩) F B Γ M := fun σ H G s g =>
  h F B σ H G s g _ fun v H' G' s' e' a => k _ H' G' s' ((g.mono e').set a i)
theorem n_asgN {i : Nat} (h : EN te Γ M m) (k : ∀ p, N nx F B (Γ.set i (some (tR p))) ((p, m) :: M)) : N (tAsg te (gName i) ⟨nx, rt, bk, ct⟩) F B Γ M := fun σ H G s g =>
  h F B σ H G s g _ fun p H' G' s' e' => k p _ H' G' s' ((g.mono e').set rfl i)
theorem n_drop (h : E te Γ M t) (k : N nx F B Γ M) : N (tDrop te ⟨nx, rt, bk, ct⟩) F B Γ M := fun σ H G s g => h F B σ H G s g _ fun v H' G' s' e' a => k _ H' G' s' (g.mono e')
theorem n_ret (h : E te Γ M t) (k : Ret F B t rt) : N (tRet te ⟨nx, rt, bk, ct⟩) F B Γ M := fun σ H G s g => h F B σ H G s g _ fun v H' G' s' e' a => k v H' G' s'.eb s'.er s'.fr a
theorem n_retN (h : Ret F B tN rt) : N (tRetN ⟨nx, rt, bk, ct⟩) F B Γ M := fun σ H G s g => h _ H G s.eb s.er s.fr rfl
theorem n_retNx (h : Ret F B tN Q) : N (fun _ H' => Q .non H') F B Γ M := fun σ H G s g => h _ H G s.eb s.er s.fr rfl
theorem n_if {φ : Bool → Prop} (h : ET tt Γ M φ) (h1 : φ true → N (s1 ⟨nx, rt, bk, ct⟩) F B Γ M) (h2 : φ false → N (s2 ⟨nx, rt, bk, ct⟩) F B Γ M) : N (tIfS tt s1 s2 ⟨nx, rt, bk, ct⟩) F B Γ M := fun σ H G s g => h F B σ H G s g _ fun b H' G' s' e' a => by
  cases b with
  | true => exact h1 a σ H' G' s' (g.mono e')
  | false => exact h2 a σ H' G' s' (g.mono e')
theorem n_ifT (h : ETb tt Γ M true) (h1 : N (s1 ⟨nx, rt, bk, ct⟩) F B Γ M) : N (tIfS tt s1 s2 ⟨nx, rt, bk, ct⟩) F B Γ M := n_if h (fun _ => h1) fun z => nomatch z
theorem n_ifF (h : ETb tt Γ M false) (h1 : N (s2 ⟨nx, rt, bk, ct⟩) F B Γ M) : N (tIfS tt s1 s2 ⟨nx, rt, bk, ct⟩) F B Γ M := n_if h (fun z => nomatch z) fun _ => h1
/-- xs.append(e) -/
theorem n_app {j : Nat} (hj : M[j]? = some (p, mL ts)) (ha : E ta Γ M (tR p)) (h : E te Γ M t) (hz : ts.length < 100000) (k : N nx F B Γ (M.set j (p, mL (ts ++ [t])))) :
    N (tDrop (tBM K "list" rAppend ta (tCons te tNil)) ⟨nx, rt, bk, ct⟩) F B Γ M := fun σ H G s g => ha F B σ H G s g _ fun v1 H1 G1 s1 e1 a1 => by
  have a1' : v1 = .ref p := a1
  subst a1'
  obtain ⟨_, _, o, h3, vs, h4, h5⟩ := s1.mm p _ (List.mem_of_getElem? hj)
  subst h4
  refine ⟨Or.inl ⟨rfl, vs, SqL.of h3⟩, h F B σ H1 G1 s1 (g.mono e1) _ fun v2 H2 G2 s2 e2 a2 => ?_⟩
  obtain ⟨_, _, o, k3, ws, k4, k5⟩ := s2.mm p _ (List.mem_of_getElem? hj)
  subst k4
  refine ⟨p, ws, v2, rfl, rfl, k3, sz6 (by rw [k5.length]; exact hz), ?_⟩
  exact k _ _ G2 (s2.put hj ⟨_, rfl, k5.append ⟨a2, trivial⟩⟩) ((g.mono e1).mono e2)
/-- xs.extend(ys) -/
theorem n_ext {j : Nat} (hj : M[j]? = some (p, mL ts)) (ha : E ta Γ M (tR p)) (h : E te Γ M (tL us)) (hz : ts.length + us.length ≤ 100000) (k : N nx F B Γ (M.set j (p, mL (ts ++ us)))) :
    N (tDrop (tBM K "list" rExtend ta (tCons te tNil)) ⟨nx, rt, bk, ct⟩) F B Γ M := fun σ H G s g => ha F B σ H G s g _ fun v1 H1 G1 s1 e1 a1 => by
  have a1' : v1 = .ref p := a1
  subst a1'
  obtain ⟨_, _, o, h3, vs, h4, h5⟩ := s1.mm p _ (List.mem_of_getElem? hj)
  subst h4
  refine ⟨Or.inl ⟨rfl, vs, SqL.of h3⟩, h F B σ H1 G1 s1 (g.mono e1) _ fun v2 H2 G2 s2 e2 a2 => ?_⟩
  obtain ⟨_, _, o, k3, ws, k4, k5⟩ := s2.mm p _ (List.mem_of_getElem? hj)
  subst k4
  obtain ⟨b, zs, rfl, eb, az⟩ := a2
  refine ⟨p, b, ws, zs, rfl, rfl, k3, s2.er b _ eb, sz5 (by rw [k5.length, az.length]; exact hz), ?_⟩
  exact k _ _ G2 (s2.put hj ⟨_, rfl, k5.append az⟩) ((g.mono e1).mono e2)
theorem ixN_nat {n j : Nat} (hj : j < n) : ixN n (j : Int) = some j := by
  unfold ixN
  rw [if_pos (by omega), if_pos (by omega)]
  simp
/-- xs[i] = e -/
theorem n_setL {j i : Nat} (hj : M[j]? = some (p, mL ts)) (h : E te Γ M t) (ha : E ta Γ M (tR p)) (hb : E tb Γ M (tn i)) (hi : i < ts.length) (k : N nx F B Γ (M.set j (p, mL (ts.set i t)))) :
    N (tAsg te (gSub ta tb rSetL) ⟨nx, rt, bk, ct⟩) F B Γ M := fun σ H G s g => h F B σ H G s g _ fun v1 H1 G1 s1 e1 a1 => ha F B σ H1 G1 s1 (g.mono e1) _ fun v2 H2 G2 s2 e2 a2 =>
  hb F B σ H2 G2 s2 ((g.mono e1).mono e2) _ fun v3 H3 G3 s3 e3 a3 => by
    have a2' : v2 = .ref p := a2
    have a3' : v3 = .int (i : Int) := a3
    subst a2' a3'
    obtain ⟨_, _, o, k3, ws, k4, k5⟩ := s3.mm p _ (List.mem_of_getElem? hj)
    subst k4
    exact ⟨p, ws, (i : Int), i, rfl, rfl, k3, ixN_nat (by rw [k5.length]; exact hi), k _ _ G3 (s3.put hj ⟨_, rfl, k5.set (t.mono e3 (t.mono e2 a1)) i⟩) (((g.mono e1).mono e2).mono e3)⟩
/-- o[i], a list's item by a count -/
def rGetN : V → V → Hp → VK → Prop := fun o i H Q => ∃ p xs j v, o = .ref p ∧ i = .int ((j : Nat) : Int) ∧ H p = some (.lst xs) ∧ xs[j]? = some v ∧ Q v H
theorem get_listN {X : Cx} : PGet X rGetN := by
  intro pins s σ H o i ov iv Q I ro ri h
  obtain ⟨p, xs, j, v, rfl, rfl, hp, hv, q⟩ := h
  cases ro
  obtain ⟨tk, rfl⟩ := ri
  obtain ⟨its, n, r, ho, hz⟩ := I.lst hp
  obtain ⟨u, hu, ru⟩ := r.get hv
  have hl := r.length
  have hj := (List.getElem?_eq_some_iff.mp hv).1
  have hn := line63
  have pl : s.heap.IsList p its.toArray := ⟨_, ho, rfl, _, rfl⟩
  refine wpAny_getItem_list pl (by omega) (by omega) (x := u) (by simpa using hu) ⟨v, H, I, ru, q⟩
/-- xs[i] += e -/
theorem n_augL {j i : Nat} {f : Int → Int → Int} {x y : Int} (hj : M[j]? = some (p, mL ts)) (ha : E ta Γ M (tR p)) (hb : E tb Γ M (tn i)) (hx : ts[i]? = some (tI x)) (h : E te Γ M (tI y)) (k : N nx F B Γ (M.set j (p, mL (ts.set i (tI (f x y)))))) :
    N (tAugS ta tb te rGetN (ipI f) rSetL ⟨nx, rt, bk, ct⟩) F B Γ M := fun σ H G s g => ha F B σ H G s g _ fun v1 H1 G1 s1 e1 a1 => hb F B σ H1 G1 s1 (g.mono e1) _ fun v2 H2 G2 s2 e2 a2 => by
    have a1' : v1 = .ref p := a1
    have a2' : v2 = .int (i : Int) := a2
    subst a1' a2'
    obtain ⟨_, _, o, k3, ws, k4, k5⟩ := s2.mm p _ (List.mem_of_getElem? hj)
    subst k4
    obtain ⟨w, hw, tw⟩ := k5.get hx
    have tw' : w = .int x := tw
    subst tw'
    refine ⟨p, ws, i, _, rfl, rfl, k3, hw, ?_⟩
    refine h F B σ H2 G2 s2 ((g.mono e1).mono e2) _ fun v3 H3 G3 s3 e3 a3 => ⟨x, y, rfl, a3, ?_⟩
    obtain ⟨_, _, o, l3, zs, l4, l5⟩ := s3.mm p _ (List.mem_of_getElem? hj)
    subst l4
    have hi : i < ts.length := (List.getElem?_eq_some_iff.mp hx).1
    exact ⟨p, zs, (i : Int), i, rfl, rfl, l3, ixN_nat (by rw [l5.length]; exact hi), k _ _ G3 (s3.put hj ⟨_, rfl, l5.set rfl i⟩) (((g.mono e1).mono e2).mono e3)⟩
/-- a, b = x, y -/
theorem n_par {i j : Nat} {ta : TA} {t1 t2 : Ty} (h : EA ta Γ M [t1, t2]) (k : N nx F B ((Γ.set i (some t1)).set j (some t2)) M) : N (tPar i j ta ⟨nx, rt, bk, ct⟩) F B Γ M := fun σ H G s g =>
  h F B σ H G s g _ fun vs H1 G1 s1 e1 a1 => by
    match vs, a1 with
    | [v, w], a1 => exact ⟨v, w, rfl, k _ H1 G1 s1 (((g.mono e1).set a1.1 i).set a1.2.1 j)⟩
/-- .. both new objects; the second only; the first only -/
theorem n_parNN {i j : Nat} {tx ty : TE} {m1 m2 : MTy} (h1 : EN tx Γ M m1) (h2 : EN ty Γ M m2) (k : ∀ p q, N nx F B ((Γ.set i (some (tR p))).set j (some (tR q))) ((q, m2) :: (p, m1) :: M)) : N (tPar i j (tCons tx (tCons ty tNil)) ⟨nx, rt, bk, ct⟩) F B Γ M := fun σ H G s g =>
  h1 F B σ H G s g _ fun p H1 G1 s1 e1 => by
    obtain ⟨y1, y2, o, y3, y4⟩ := s1.mm p m1 (List.mem_cons_self ..)
    refine h2 (upd F p o) B σ H1 G1 (s1.hide y3) (g.mono e1) _ fun q H2 G2 s2 e2 => ⟨_, _, rfl, ?_⟩
    have s3 := s2.perm (M' := (q, m2) :: M) (List.Perm.refl _)
    obtain ⟨z1, z2, o', z3, z4⟩ := s3.mm q m2 (List.mem_cons_self ..)
    have s4 := (s3.hide z3).swapF (by
      intro e
      subst e
      rw [upd_same] at z1
      cases z1)
    have s5 := s4.show (by
      have qp : p ≠ q := by
        intro e
        subst e
        rw [upd_same] at z1
        cases z1
      rw [upd_ne qp]
      exact y1) (m1.mono e2 y4)
    have hq : F q = none := by
      by_cases e : q = p
      · subst e
        rw [upd_same] at z1
        cases z1
      · rw [upd_ne e] at z1
        exact z1
    exact k p q _ H2 G2 (s5.show hq z4) (((g.mono e1).mono e2).set rfl i |>.set rfl j)
theorem n_par2 {i j : Nat} {tx ty : TE} {m2 : MTy} (h1 : E tx Γ M t) (h2 : EN ty Γ M m2) (k : ∀ q, N nx F B ((Γ.set i (some t)).set j (some (tR q))) ((q, m2) :: M)) : N (tPar i j (tCons tx (tCons ty tNil)) ⟨nx, rt, bk, ct⟩) F B Γ M := fun σ H G s g =>
  h1 F B σ H G s g _ fun v H1 G1 s1 e1 a1 => h2 F B σ H1 G1 s1 (g.mono e1) _ fun q H2 G2 s2 e2 => ⟨v, _, rfl, k q _ H2 G2 s2 (((g.mono e1).mono e2).set (t.mono e2 a1) i |>.set rfl j)⟩
theorem n_par1 {i j : Nat} {tx ty : TE} {m1 : MTy} (h1 : EN tx Γ M m1) (h2 : E ty Γ M t) (k : ∀ q, N nx F B ((Γ.set i (some (tR q))).set j (some t)) ((q, m1) :: M)) : N (tPar i j (tCons tx (tCons ty tNil)) ⟨nx, rt, bk, ct⟩) F B Γ M := fun σ H G s g =>
  h1 F B σ H G s g _ fun q H1 G1 s1 e1 => by
    obtain ⟨y1, y2, o, y3, y4⟩ := s1.mm q m1 (List.mem_cons_self ..)
    refine h2 (upd F q o) B σ H1 G1 (s1.hide y3) (g.mono e1) _ fun v H2 G2 s2 e2 a2 => ⟨_, _, rfl, ?_⟩
    exact k q _ H2 G2 (s2.show y1 (m1.mono e2 y4)) (((g.mono e1).mono e2).set rfl i |>.set a2 j)
end
end K89
set_option Elab.async false
set_option linter.all false
set_option maxRecDepth 100000
set_option maxHeartbeats 4000000
/-! K89L: loops, comprehensions, dicts over the typed layer. -/
namespace K89
open PySem L2
section
variable {F B : Hp} {Γ : Gam} {M : List Mut1} {ta tb tc te : TE} {tt : TT} {t u : Ty} {ts us : List Ty} {K : PySem.W.Frag} {p : Addr} {m : MTy} {nx bk ct : St → Hp → Prop} {rt : VK} {s1 s2 tbd : TS} {P : St → Hp → Prop} {g : TG}

/-! ### targets -/
/-- a value of type t stored by g, then P -/
def TgN (g : TG) (t : Ty) (F B : Hp) (Γ : Gam) (M : List Mut1) (P : St → Hp → Prop) : Prop := ∀ σ H G v, Hs F B M H G → Sl Γ σ G → t.at_ v G → g v σ H P
theorem tg_name {j : Nat} (k : N P F B (Γ.set j (some t)) M) : TgN (gName j) t F B Γ M P := fun σ H G v s g a => k _ H G s (g.set a j)
theorem tg_2 {i j : Nat} {t1 t2 : Ty} (k : N P F B ((Γ.set i (some t1)).set j (some t2)) M) : TgN (gTup K 2 (gCons (gName i) (gCons (gName j) gNil))) (tT [t1, t2]) F B Γ M P := fun σ H G v s g a => by
  obtain ⟨b, vs, rfl, eb, av⟩ := a
  match vs, av with
  | [x, y], av => exact ⟨b, [x, y], rfl, SqT.of (s.er b _ eb), rfl, x, [y], rfl, y, [], rfl, rfl, k _ H G s ((g.set av.1 i).set av.2.1 j)⟩
theorem tg_4 {i j l n : Nat} {t1 t2 t3 t4 : Ty} (k : N P F B ((((Γ.set i (some t1)).set j (some t2)).set l (some t3)).set n (some t4)) M) : TgN (gTup K 4 (gCons (gName i) (gCons (gName j) (gCons (gName l) (gCons (gName n) gNil))))) (tT [t1, t2, t3, t4]) F B Γ M P := fun σ H G v s g a => by
  obtain ⟨b, vs, rfl, eb, av⟩ := a
  match vs, av with
  | [x, y, z, w], av => exact ⟨b, [x, y, z, w], rfl, SqT.of (s.er b _ eb), rfl, x, [y, z, w], rfl, y, [z, w], rfl, z, [w], rfl, w, [], rfl, rfl, k _ H G s ((((g.set av.1 i).set av.2.1 j).set av.2.2.1 l).set av.2.2.2.1 n)⟩
/-- a, (b, c) -/
theorem tg_12 {i j l : Nat} {t1 t2 t3 : Ty} (k : N P F B (((Γ.set i (some t1)).set j (some t2)).set l (some t3)) M) : TgN (gTup K 2 (gCons (gName i) (gCons (gTup K 2 (gCons (gName j) (gCons (gName l) gNil))) gNil))) (tT [t1, tT [t2, t3]]) F B Γ M P := fun σ H G v s g a => by
  obtain ⟨b, vs, rfl, eb, av⟩ := a
  match vs, av with
  | [x, y], av =>
    obtain ⟨c, ws, rfl, ec, aw⟩ := av.2.1
    match ws, aw with
    | [z, w], aw => exact ⟨b, [x, .ref c], rfl, SqT.of (s.er b _ eb), rfl, x, [.ref c], rfl, .ref c, [], rfl, ⟨c, [z, w], rfl, SqT.of (s.er c _ ec), rfl, z, [w], rfl, w, [], rfl, rfl, rfl, k _ H G s (((g.set av.1 i).set aw.1 j).set aw.2.1 l)⟩⟩
theorem n_asgT {g : TG} (h : E te Γ M t) (k : TgN g t F B Γ M nx) : N (tAsg te g ⟨nx, rt, bk, ct⟩) F B Γ M := fun σ H G s g1 =>
  h F B σ H G s g1 _ fun v H' G' s' e' a => k _ H' G' v s' (g1.mono e') a

/-! ### what is walked -/
/-- J gives, turn by turn, values of these types, in any heap that has what G has -/
structure SrcOk (J : It) (G : Hp) (ts : List Ty) : Prop where
  ok : ∃ (Gd : Hp → Prop) (Y : Nat → Hp → V → Hp → Prop), Walk J ts.length Gd Y ∧ (∀ H, Er G H → Gd H) ∧
    ∀ i t x H1 H2 G1, ts[i]? = some t → Er G G1 → Er G1 H1 → Y i H1 x H2 → ∃ G2, Er G1 G2 ∧ Er G2 H2 ∧ Frm G1 H1 G2 H2 ∧ t.at_ x G2
def Src (wi : TI) (Γ : Gam) (M : List Mut1) (ts : List Ty) : Prop := ∀ F B σ H G, Hs F B M H G → Sl Γ σ G → ∀ R : It → Hp → Prop, (∀ J H' G', Hs F B M H' G' → Er G G' → SrcOk J G' ts → R J H') → wi σ H R
theorem Frm.refl (G H : Hp) : Frm G H G H := fun a o h1 h2 => ⟨h2, h1⟩
/-- a new pair -/
theorem pair_ok {G1 H1 : Hp} {T : Addr} {x y : V} {t1 t2 : Ty} (e : Er G1 H1) (hT : H1 T = none) (hx : t1.at_ x G1) (hy : t2.at_ y G1) : ∃ G2, Er G1 G2 ∧ Er G2 (upd H1 T (.tup [x, y])) ∧ Frm G1 H1 G2 (upd H1 T (.tup [x, y])) ∧ (tT [t1, t2]).at_ (.ref T) G2 := by
  have g := e.no hT
  refine ⟨upd G1 T (.tup [x, y]), Er.grow g, e.both, fun a o h1 h2 => ?_, T, _, rfl, upd_same, t1.mono (Er.grow g) hx, t2.mono (Er.grow g) hy, trivial⟩
  have ne : a ≠ T := ne_of_none h2 hT
  rw [upd_ne ne, upd_ne ne]
  exact ⟨h2, h1⟩
theorem src_list (h : E te Γ M (tL ts)) : Src (iList K te) Γ M ts := fun F B σ H G s g R q => h F B σ H G s g _ fun v H' G' s' e' a => by
  obtain ⟨b, vs, rfl, eb, av⟩ := a
  refine ⟨b, rfl, ⟨vs, SqL.of (s'.er b _ eb)⟩, q _ H' G' s' e' ⟨fun H => SqL K H b vs, YAt vs, ?_, fun H e => SqL.of (e b _ eb), fun i t x H1 H2 G1 hi e1 e2 y => ?_⟩⟩
  · have w := walk_list (K := K) (a := b) (xs := vs)
    rw [av.length] at w
    exact w
  · obtain ⟨rfl, hx⟩ := y
    obtain ⟨t', ht', tx⟩ := av.get' hx
    rw [hi] at ht'
    cases ht'
    exact ⟨G1, Er.refl _, e2, Frm.refl _ _, t.mono e1 tx⟩
theorem src_tup (h : E te Γ M (tT ts)) : Src (iTup K te) Γ M ts := fun F B σ H G s g R q => h F B σ H G s g _ fun v H' G' s' e' a => by
  obtain ⟨b, vs, rfl, eb, av⟩ := a
  refine ⟨b, rfl, ⟨vs, SqT.of (s'.er b _ eb)⟩, q _ H' G' s' e' ⟨fun H => SqT K H b vs, YAt vs, ?_, fun H e => SqT.of (e b _ eb), fun i t x H1 H2 G1 hi e1 e2 y => ?_⟩⟩
  · have w := walk_tup (K := K) (a := b) (xs := vs)
    rw [av.length] at w
    exact w
  · obtain ⟨rfl, hx⟩ := y
    obtain ⟨t', ht', tx⟩ := av.get' hx
    rw [hi] at ht'
    cases ht'
    exact ⟨G1, Er.refl _, e2, Frm.refl _ _, t.mono e1 tx⟩
/-- a list or a tuple -/
def iSq (K : PySem.W.Frag) (te : TE) : TI := fun σ H R => te σ H fun x H1 => ∃ a, x = .ref a ∧ (((∃ xs, SqL K H1 a xs) ∧ R (Itl K a) H1) ∨ ((∃ xs, SqT K H1 a xs) ∧ R (Itt K a) H1))
theorem src_sq {tup : Bool} (h : E te Γ M (tSq tup ts)) : Src (iSq K te) Γ M ts := fun F B σ H G s g R q => h F B σ H G s g _ fun v H' G' s' e' a => by
  obtain ⟨b, vs, rfl, eb, av⟩ := a
  refine ⟨b, rfl, ?_⟩
  cases tup with
  | false =>
    refine Or.inl ⟨⟨vs, SqL.of (s'.er b _ eb)⟩, q _ H' G' s' e' ⟨fun H => SqL K H b vs, YAt vs, ?_, fun H e => SqL.of (e b _ eb), fun i t x H1 H2 G1 hi e1 e2 y => ?_⟩⟩
    · have w := walk_list (K := K) (a := b) (xs := vs)
      rw [av.length] at w
      exact w
    · obtain ⟨rfl, hx⟩ := y
      obtain ⟨t', ht', tx⟩ := av.get' hx
      rw [hi] at ht'
      cases ht'
      exact ⟨G1, Er.refl _, e2, Frm.refl _ _, t.mono e1 tx⟩
  | true =>
    refine Or.inr ⟨⟨vs, SqT.of (s'.er b _ eb)⟩, q _ H' G' s' e' ⟨fun H => SqT K H b vs, YAt vs, ?_, fun H e => SqT.of (e b _ eb), fun i t x H1 H2 G1 hi e1 e2 y => ?_⟩⟩
    · have w := walk_tup (K := K) (a := b) (xs := vs)
      rw [av.length] at w
      exact w
    · obtain ⟨rfl, hx⟩ := y
      obtain ⟨t', ht', tx⟩ := av.get' hx
      rw [hi] at ht'
      cases ht'
      exact ⟨G1, Er.refl _, e2, Frm.refl _ _, t.mono e1 tx⟩
theorem range_at {n i : Nat} {t : Ty} {f : Nat → Ty} (h : ((List.range n).map f)[i]? = some t) : t = f i := by
  rw [List.getElem?_map] at h
  by_cases hi : i < n
  · rw [List.getElem?_range hi] at h
    exact (Option.some.inj h).symm
  · rw [List.getElem?_eq_none (by simp; omega)] at h
    cases h
theorem src_range1 {ta : TA} {n : Nat} (h : EA ta Γ M [tn n]) (hn : n ≤ 100000) : Src (iRng1 ta) Γ M ((List.range n).map tn) := fun F B σ H G s g R q => h F B σ H G s g _ fun vs H' G' s' e' a => by
  match vs, a with
  | [v], a =>
    have a' : v = .int (n : Int) := a.1
    subst a'
    refine ⟨(n : Int), rfl, by omega, by omega, q _ H' G' s' e' ⟨fun _ => True, YFn fun i => .int (0 + i), ?_, fun _ _ => trivial, fun i t x H1 H2 G1 hi e1 e2 y => ?_⟩⟩
    · have w := walk_range (lo := 0) (n := n)
      rw [List.length_map, List.length_range]
      have e0 : ((n : Int)).toNat = n := by omega
      rw [e0]
      exact w
    · obtain ⟨rfl, rfl⟩ := y
      rw [range_at hi]
      exact ⟨G1, Er.refl _, e2, Frm.refl _ _, by show V.int (0 + (i : Int)) = V.int (i : Int); rw [Int.zero_add]⟩
theorem src_range2 {ta : TA} {lo n : Nat} (h : EA ta Γ M [tn lo, tn n]) (hl : lo ≤ 100000) (hn : n ≤ 100000) : Src (iRng2 ta) Γ M ((List.range (n - lo)).map fun i => tn (lo + i)) := fun F B σ H G s g R q => h F B σ H G s g _ fun vs H' G' s' e' a => by
  match vs, a with
  | [v, w], a =>
    have a' : v = .int (lo : Int) := a.1
    have b' : w = .int (n : Int) := a.2.1
    subst a' b'
    refine ⟨(lo : Int), (n : Int), rfl, ⟨by omega, by omega, by omega, by omega⟩, q _ H' G' s' e' ⟨fun _ => True, YFn fun i => .int (lo + i), ?_, fun _ _ => trivial, fun i t x H1 H2 G1 hi e1 e2 y => ?_⟩⟩
    · have w := walk_range (lo := (lo : Int)) (n := n - lo)
      rw [List.length_map, List.length_range]
      have e0 : ((n : Int) - (lo : Int)).toNat = n - lo := by omega
      rw [e0]
      exact w
    · obtain ⟨rfl, rfl⟩ := y
      rw [range_at (f := fun i => tn (lo + i)) hi]
      exact ⟨G1, Er.refl _, e2, Frm.refl _ _, by show V.int ((lo : Int) + (i : Int)) = V.int ((lo + i : Nat) : Int); rw [Int.natCast_add]⟩
/-- enumerate -/
def enumT (ts : List Ty) : List Ty := ts.zipIdx.map fun p => tT [tn p.2, p.1]
theorem enum_at {i : Nat} (h : (enumT ts)[i]? = some t) : ∃ u, ts[i]? = some u ∧ t = tT [tn i, u] := by
  unfold enumT at h
  rw [List.getElem?_map, List.getElem?_zipIdx] at h
  cases e : ts[i]? with
  | none => rw [e] at h; cases h
  | some u =>
    rw [e] at h
    refine ⟨u, rfl, ?_⟩
    have := Option.some.inj h
    rw [← this]
    simp
theorem enum_len : (enumT ts).length = ts.length := by
  unfold enumT
  simp
theorem src_enum {ta : TA} (h : EA ta Γ M [tL ts]) : Src (iEnum K ta) Γ M (enumT ts) := fun F B σ H G s g R q => h F B σ H G s g _ fun vs H' G' s' e' a => by
  match vs, a with
  | [v], a =>
    obtain ⟨b, ws, rfl, eb, aw⟩ := a.1
    refine ⟨b, ws, rfl, SqL.of (s'.er b _ eb), q _ H' G' s' e' ⟨fun H => SqL K H b ws, YPair (fun i => some (.int (i : Nat))) (fun i => ws[i]?), ?_, fun H e => SqL.of (e b _ eb), fun i t x H1 H2 G1 hi e1 e2 y => ?_⟩⟩
    · have w := walk_enum (K := K) (a := b) (xs := ws)
      rw [enum_len, ← aw.length]
      exact w
    · obtain ⟨T, x1, x2, rfl, hT, rfl, h1, h2⟩ := y
      obtain ⟨u, hu, rfl⟩ := enum_at hi
      obtain ⟨u', hu', au⟩ := aw.get' h2
      rw [hu] at hu'
      cases hu'
      have h1' := Option.some.inj h1
      subst h1'
      exact pair_ok e2 hT rfl (u.mono e1 au)
/-- a frozen dict's keys, values, items -/
theorem src_keys {kvs : List (Key × Ty)} (h : E te Γ M (tD kvs)) : Src (iKeys te) Γ M (kvs.map fun e => tV (kV e.1)) := fun F B σ H G s g R q => h F B σ H G s g _ fun v H' G' s' e' a => by
  obtain ⟨b, o, vs, rfl, eb, av⟩ := a
  refine ⟨b, o, rfl, Or.inl ⟨vs, s'.er b _ eb, q _ H' G' s' e' ⟨fun H => H b = some (.frz o (.dK vs)), fun i H x H' => H' = H ∧ ∃ k v, vs[i]? = some (k, v) ∧ x = kV k, ?_, fun H e => e b _ eb, fun i t x H1 H2 G1 hi e1 e2 y => ?_⟩⟩⟩
  · have w := walk_keys (d := b) (o := o) (kvs := vs)
    rw [List.length_map, ← av.length]
    exact w
  · obtain ⟨rfl, k, w, hk, rfl⟩ := y
    rw [List.getElem?_map] at hi
    cases e : kvs[i]? with
    | none => rw [e] at hi; cases hi
    | some z =>
      rw [e] at hi
      have hi' := Option.some.inj hi
      subst hi'
      obtain ⟨w', h1, h2⟩ := av.get e
      rw [hk] at h1
      cases h1
      exact ⟨G1, Er.refl _, e2, Frm.refl _ _, rfl⟩
theorem src_vals {kvs : List (Key × Ty)} (h : E te Γ M (tD kvs)) : Src (iVals te) Γ M (kvs.map (·.2)) := fun F B σ H G s g R q => h F B σ H G s g _ fun v H' G' s' e' a => by
  obtain ⟨b, o, vs, rfl, eb, av⟩ := a
  refine ⟨b, o, vs, rfl, s'.er b _ eb, q _ H' G' s' e' ⟨fun H => H b = some (.frz o (.dK vs)), fun i H x H' => H' = H ∧ ∃ k, vs[i]? = some (k, x), ?_, fun H e => e b _ eb, fun i t x H1 H2 G1 hi e1 e2 y => ?_⟩⟩
  · have w := walk_values (d := b) (o := o) (kvs := vs)
    rw [List.length_map, ← av.length]
    exact w
  · obtain ⟨rfl, k, hk⟩ := y
    rw [List.getElem?_map] at hi
    cases e : kvs[i]? with
    | none => rw [e] at hi; cases hi
    | some z =>
      rw [e] at hi
      have hi' := Option.some.inj hi
      subst hi'
      obtain ⟨w', h1, h2⟩ := av.get e
      rw [hk] at h1
      cases h1
      exact ⟨G1, Er.refl _, e2, Frm.refl _ _, z.2.mono e1 h2⟩
theorem src_items {kvs : List (Key × Ty)} (h : E te Γ M (tD kvs)) : Src (iItems te) Γ M (kvs.map fun e => tT [tV (kV e.1), e.2]) := fun F B σ H G s g R q => h F B σ H G s g _ fun v H' G' s' e' a => by
  obtain ⟨b, o, vs, rfl, eb, av⟩ := a
  refine ⟨b, o, vs, rfl, s'.er b _ eb, q _ H' G' s' e' ⟨fun H => H b = some (.frz o (.dK vs)), YPair (fun i => vs[i]?.map fun kv => kV kv.1) (fun i => vs[i]?.map Prod.snd), ?_, fun H e => e b _ eb, fun i t x H1 H2 G1 hi e1 e2 y => ?_⟩⟩
  · have w := walk_items (d := b) (o := o) (kvs := vs)
    rw [List.length_map, ← av.length]
    exact w
  · obtain ⟨T, x1, x2, rfl, hT, rfl, h1, h2⟩ := y
    rw [List.getElem?_map] at hi
    cases e : kvs[i]? with
    | none => rw [e] at hi; cases hi
    | some z =>
      rw [e] at hi
      have hi' := Option.some.inj hi
      subst hi'
      obtain ⟨w', g1, g2⟩ := av.get e
      dsimp only at h1 h2
      rw [g1] at h1 h2
      have h1' := Option.some.inj h1
      have h2' := Option.some.inj h2
      subst h1' h2'
      exact pair_ok e2 hT rfl (z.2.mono e1 g2)

/-! ### loops -/
/-- what holds between two turns -/
def LI {α : Type} (F B : Hp) (J : Nat → α → Prop) (Γ' : α → Gam) (M' : α → List Mut1) (i : Nat) : St → Hp → Prop := fun σ H => ∃ x G, J i x ∧ Hs F B (M' x) H G ∧ Sl (Γ' x) σ G
theorem li {α : Type} {J : Nat → α → Prop} {Γ' : α → Gam} {M' : α → List Mut1} {i : Nat} (x : α) (h : J i x) (e : Γ = Γ' x) (e' : M = M' x) : N (LI F B J Γ' M' i) F B Γ M := fun σ H G s g => by
  subst e e'
  exact ⟨x, G, h, s, g⟩
theorem n_for {α : Type} {wi : TI} (J : Nat → α → Prop) (Γ' : α → Gam) (M' : α → List Mut1) (hs : Src wi Γ M ts) (x0 : α) (h0 : J 0 x0) (e0 : Γ = Γ' x0) (e1 : M = M' x0)
    (step : ∀ B', Er B B' → ∀ i t x, ts[i]? = some t → J i x → TgN g t F B' (Γ' x) (M' x) (tbd ⟨LI F B' J Γ' M' (i + 1), rt, nx, LI F B' J Γ' M' (i + 1)⟩))
    (hd : ∀ x, J ts.length x → N nx F B (Γ' x) (M' x)) : N (tFor wi g tbd ⟨nx, rt, bk, ct⟩) F B Γ M := fun σ H G s gm => by
  subst e0 e1
  refine hs F B σ H G s gm _ fun J1 H' G' s' e' ok => ?_
  obtain ⟨Gd, Y, w, hG, hY⟩ := ok.ok
  refine for_it w (fun i σ H => LI F G' J Γ' M' i σ H) ⟨x0, G', h0, s'.here, gm.mono e'⟩ ?_ ?_ ?_
  · rintro i σ2 H2 _ ⟨x, G2, _, s2, _⟩
    exact hG H2 (s2.eb.trans s2.er)
  · rintro i v σ2 H2 H3 hi ⟨x, G2, hx, s2, g2⟩ y
    have ht : ts[i]? = some ts[i] := List.getElem?_eq_getElem hi
    obtain ⟨G3, a1, a2, a3, a4⟩ := hY i _ v H2 H3 G2 ht s2.eb s2.er y
    exact step G' s'.eb i _ x ht hx σ2 H3 G3 v (s2.frm a1 a2 a3) (g2.mono a1) a4
  · rintro σ2 H2 ⟨x, G2, hx, s2, g2⟩
    exact hd x hx σ2 H2 G2 (s2.base s'.eb) g2
def LW {α : Type} (F B : Hp) (J : Nat → α → Prop) (Γ' : α → Gam) (M' : α → List Mut1) (m : Nat) : St → Hp → Prop := fun σ H => ∃ n x G, n < m ∧ J n x ∧ Hs F B (M' x) H G ∧ Sl (Γ' x) σ G
theorem lw {α : Type} {J : Nat → α → Prop} {Γ' : α → Gam} {M' : α → List Mut1} {k : Nat} (n : Nat) (x : α) (hn : n < k) (h : J n x) (e : Γ = Γ' x) (e' : M = M' x) : N (LW F B J Γ' M' k) F B Γ M := fun σ H G s g => by
  subst e e'
  exact ⟨n, x, G, hn, h, s, g⟩
theorem n_while {α : Type} (J : Nat → α → Prop) (Γ' : α → Gam) (M' : α → List Mut1) (n0 : Nat) (x0 : α) (h0 : J n0 x0) (e0 : Γ = Γ' x0) (e1 : M = M' x0)
    (step : ∀ n x, J n x → ∃ φ, ET tt (Γ' x) (M' x) φ ∧ (φ true → N (tbd ⟨LW F B J Γ' M' n, rt, nx, LW F B J Γ' M' n⟩) F B (Γ' x) (M' x)) ∧ (φ false → N nx F B (Γ' x) (M' x))) : N (tWhile tt tbd ⟨nx, rt, bk, ct⟩) F B Γ M := fun σ H G s g => by
  subst e0 e1
  refine ⟨fun n σ H => ∃ x G, J n x ∧ Hs F B (M' x) H G ∧ Sl (Γ' x) σ G, ⟨n0, x0, G, h0, s, g⟩, ?_⟩
  rintro n σ2 H2 ⟨x, G2, hx, s2, g2⟩
  obtain ⟨φ, h1, h2, h3⟩ := step n x hx
  refine h1 F B σ2 H2 G2 s2 g2 _ fun b H3 G3 s3 e3 a3 => ?_
  cases b with
  | true =>
    refine ⟨LW F B J Γ' M' n, ?_, h2 a3 σ2 H3 G3 s3 (g2.mono e3)⟩
    rintro σ4 H4 ⟨n', x', G4, hn, hx', s4, g4⟩
    exact ⟨n', hn, x', G4, hx', s4, g4⟩
  | false => exact h3 a3 σ2 H3 G3 s3 (g2.mono e3)

/-! ### comprehensions -/
theorem wipe_set {σ : St} {j : Nat} {x : Option V} : ∀ {vs : List Nat}, j ∈ vs → wipe (σ.set j x) vs = wipe σ vs
  | v :: vs, h => by
    show (wipe (σ.set j x) vs).set v none = (wipe σ vs).set v none
    by_cases e : j ∈ vs
    · rw [wipe_set e]
    · have jv : j = v := by
        rcases List.mem_cons.mp h with z | z
        · exact z
        · exact absurd z e
      subst jv
      have k : ∀ (ws : List Nat), j ∉ ws → wipe (σ.set j x) ws = (wipe σ ws).set j x := by
        intro ws
        induction ws with
        | nil => intro _; rfl
        | cons w ws ih =>
          intro hn
          have n1 : w ≠ j := fun z => hn (by rw [z]; exact List.mem_cons_self ..)
          show (wipe (σ.set j x) ws).set w none = ((wipe σ ws).set w none).set j x
          rw [ih fun z => hn (List.mem_cons_of_mem _ z), List.set_comm _ _ n1]
      rw [k vs e, List.set_set]
theorem wipe_wipe (σ : St) (vs : List Nat) : wipe (wipe σ vs) vs = wipe σ vs := by
  have k : ∀ (ws : List Nat), (∀ w ∈ ws, w ∈ vs) → wipe (wipe σ ws) vs = wipe σ vs := by
    intro ws
    induction ws with
    | nil => intro _; rfl
    | cons w ws ih =>
      intro h
      show wipe ((wipe σ ws).set w none) vs = _
      rw [wipe_set (h w (List.mem_cons_self ..)), ih fun z hz => h z (List.mem_cons_of_mem _ hz)]
  exact k vs fun _ h => h
/-- a target that stores in the block's own names -/
def TgC (g : TG) (t : Ty) (vs : List Nat) (Γ1 Γ2 : Gam) : Prop := ∀ σ H G v, Sl Γ1 σ G → Er G H → t.at_ v G → ∀ P : St → Hp → Prop, (∀ σ2, wipe σ2 vs = wipe σ vs → Sl Γ2 σ2 G → P σ2 H) → g v σ H P
theorem tc_name {j : Nat} {vs : List Nat} (h : j ∈ vs) : TgC (gName j) t vs Γ (Γ.set j (some t)) := fun σ H G v g e a P k => k _ (wipe_set h) (g.set a j)
theorem tc_2 {i j : Nat} {vs : List Nat} {t1 t2 : Ty} (h : i ∈ vs) (h2 : j ∈ vs) : TgC (gTup K 2 (gCons (gName i) (gCons (gName j) gNil))) (tT [t1, t2]) vs Γ ((Γ.set i (some t1)).set j (some t2)) := fun σ H G v g e a P k => by
  obtain ⟨b, ws, rfl, eb, av⟩ := a
  match ws, av with
  | [x, y], av => exact ⟨b, [x, y], rfl, SqT.of (e b _ eb), rfl, x, [y], rfl, y, [], rfl, rfl, k _ (by rw [wipe_set h2, wipe_set h]) ((g.set av.1 i).set av.2.1 j)⟩
theorem tc_4 {i j l n : Nat} {vs : List Nat} {t1 t2 t3 t4 : Ty} (h : i ∈ vs) (h2 : j ∈ vs) (h3 : l ∈ vs) (h4 : n ∈ vs) : TgC (gTup K 4 (gCons (gName i) (gCons (gName j) (gCons (gName l) (gCons (gName n) gNil))))) (tT [t1, t2, t3, t4]) vs Γ ((((Γ.set i (some t1)).set j (some t2)).set l (some t3)).set n (some t4)) := fun σ H G v g e a P k => by
  obtain ⟨b, ws, rfl, eb, av⟩ := a
  match ws, av with
  | [x, y, z, w], av => exact ⟨b, [x, y, z, w], rfl, SqT.of (e b _ eb), rfl, x, [y, z, w], rfl, y, [z, w], rfl, z, [w], rfl, w, [], rfl, rfl, k _ (by rw [wipe_set h4, wipe_set h3, wipe_set h2, wipe_set h]) ((((g.set av.1 i).set av.2.1 j).set av.2.2.1 l).set av.2.2.2.1 n)⟩
theorem en_lc {wi : TI} {vs : List Nat} (J : Nat → List Ty → Prop) (hs : Src wi Γ M ts) (hz : ts.length ≤ 50000) (h0 : J 0 [])
    (step : ∀ i t us, ts[i]? = some t → J i us → us.length ≤ i → ∃ Γ2 φ, TgC g t vs (wip Γ vs) Γ2 ∧ ET tt Γ2 M φ ∧ (φ true → ∃ u, E te Γ2 M u ∧ J (i + 1) (us ++ [u])) ∧ (φ false → J (i + 1) us)) :
    EN (tLc wi g tt te vs) Γ M (mEx (J ts.length) mL) := fun F B σ H G s gm Q q => by
  refine hs F B σ H G s gm _ fun J1 H' G' s' e' ok D hD => ?_
  obtain ⟨Gd, Y, w, hG, hY⟩ := ok.ok
  refine lc_it w (fun i H => ∃ us G2, J i us ∧ us.length ≤ i ∧ Hs F G' ((D, mL us) :: M) H G2) ⟨[], G', h0, Nat.le_refl _, s'.here.newM hD ⟨[], rfl, trivial⟩⟩ ?_ ?_ ?_
  · rintro i H2 _ ⟨us, G2, _, _, s2⟩
    exact hG H2 (s2.eb.trans s2.er)
  · rintro i x H2 H3 hi ⟨us, G2, hus, hl, s2⟩ y
    have ht : ts[i]? = some ts[i] := List.getElem?_eq_getElem hi
    obtain ⟨G3, a1, a2, a3, a4⟩ := hY i _ x H2 H3 G2 ht s2.eb s2.er y
    have s3 := s2.frm a1 a2 a3
    obtain ⟨Γ2, φ, b1, b2, b3, b4⟩ := step i _ us ht hus hl
    have g3 : Sl (wip Γ vs) (wipe σ vs) G3 := ((gm.mono e').mono (s2.eb.trans a1)).wip vs
    refine b1 (wipe σ vs) H3 G3 x g3 s3.er a4 _ fun σ2 hw g4 => ⟨?_, ?_⟩
    · rw [hw]
      exact wipe_wipe σ vs
    · obtain ⟨z1, z2, o, z3, ws, z4, z5⟩ := s3.mm D _ (List.mem_cons_self ..)
      subst z4
      refine b2 _ G' σ2 H3 G3 (s3.hide z3) g4 _ fun b H4 G4 s4 e4 a5 => ?_
      cases b with
      | true =>
        obtain ⟨u, c1, c2⟩ := b3 a5
        refine c1 _ G' σ2 H4 G4 s4 (g4.mono e4) _ fun y2 H5 G5 s5 e5 a6 => ?_
        have hD5 : H5 D = some (.lst ws) := (s5.fr D _ upd_same).1
        refine ⟨ws, hD5, sz6 (by rw [z5.length]; omega), us ++ [u], G5, c2, by rw [List.length_append]; exact Nat.succ_le_succ hl, ?_⟩
        have s6 := s5.show z1 (m := mL us) ⟨ws, rfl, (z5.mono e4).mono e5⟩
        exact s6.write ⟨_, rfl, ((z5.mono e4).mono e5).append ⟨a6, trivial⟩⟩
      | false => exact ⟨us, G4, b4 a5, Nat.le_succ_of_le hl, s4.show z1 (m := mL us) ⟨ws, rfl, z5.mono e4⟩⟩
  · rintro H2 ⟨us, G2, hus, _, s2⟩
    refine q D H2 G2 ?_ (e'.trans s2.eb)
    have s3 := s2.base s'.eb
    exact ⟨s3.er, s3.eb, s3.fr, fun a n z => by
      rcases List.mem_cons.mp z with z | z
      · cases z
        obtain ⟨k1, k2, o, k3, k4⟩ := s3.mm D _ (List.mem_cons_self ..)
        exact ⟨k1, k2, o, k3, us, hus, k4⟩
      · exact s3.mm a n (List.mem_cons_of_mem _ z), s3.nd⟩
theorem et_yes : ETb tYes Γ M true := fun F B σ H G s g Q q => q true H G s (Er.refl G) rfl
/-- [u for x in xs] -/
theorem en_map {α : Type} {wi : TI} {vs : List Nat} {xs : List α} {f u : α → Ty} (hs : Src wi Γ M (xs.map f)) (hz : xs.length ≤ 50000)
    (step : ∀ x, x ∈ xs → ∃ Γ2, TgC g (f x) vs (wip Γ vs) Γ2 ∧ E te Γ2 M (u x)) : EN (tLc wi g tYes te vs) Γ M (mL (xs.map u)) := by
  refine (en_lc (fun i us => us = (xs.take i).map u) hs (by rw [List.length_map]; exact hz) rfl fun i t us ht hus hl => ?_).imp fun o G h => ?_
  · rw [List.getElem?_map] at ht
    cases e : xs[i]? with
    | none => rw [e] at ht; cases ht
    | some x =>
      rw [e] at ht
      have ht' := Option.some.inj ht
      subst ht'
      obtain ⟨Γ2, a1, a2⟩ := step x (List.mem_of_getElem? e)
      refine ⟨Γ2, _, a1, et_yes, fun _ => ⟨u x, a2, ?_⟩, fun z => nomatch z⟩
      rw [hus, List.take_succ, e, List.map_append]
      rfl
  · obtain ⟨us, h1, h2⟩ := h
    rw [h1, List.length_map, List.take_length] at h2
    exact h2
/-- [u for x in xs if c] -/
theorem en_fil {α : Type} {wi : TI} {vs : List Nat} {xs : List α} {f u : α → Ty} {c : α → Bool} (hs : Src wi Γ M (xs.map f)) (hz : xs.length ≤ 50000)
    (step : ∀ x, x ∈ xs → ∃ Γ2, TgC g (f x) vs (wip Γ vs) Γ2 ∧ ETb tt Γ2 M (c x) ∧ (c x = true → E te Γ2 M (u x))) : EN (tLc wi g tt te vs) Γ M (mL ((xs.filter c).map u)) := by
  refine (en_lc (fun i us => us = ((xs.take i).filter c).map u) hs (by rw [List.length_map]; exact hz) rfl fun i t us ht hus hl => ?_).imp fun o G h => ?_
  · rw [List.getElem?_map] at ht
    cases e : xs[i]? with
    | none => rw [e] at ht; cases ht
    | some x =>
      rw [e] at ht
      have ht' := Option.some.inj ht
      subst ht'
      obtain ⟨Γ2, a1, a2, a3⟩ := step x (List.mem_of_getElem? e)
      have et : xs.take (i + 1) = xs.take i ++ [x] := by rw [List.take_succ, e]; rfl
      refine ⟨Γ2, _, a1, a2, fun z => ⟨u x, a3 z.symm, ?_⟩, fun z => ?_⟩
      · rw [hus, et, List.filter_append, List.map_append, List.filter_cons, if_pos z.symm]
        rfl
      · rw [hus, et, List.filter_append, List.map_append, List.filter_cons, if_neg (by rw [← z]; decide)]
        show _ = _ ++ []
        rw [List.append_nil]
  · obtain ⟨us, h1, h2⟩ := h
    rw [h1, List.length_map, List.take_length] at h2
    exact h2
end
end K89
set_option Elab.async false
set_option linter.all false
set_option maxRecDepth 100000
set_option maxHeartbeats 4000000
/-! K89D: dicts, built-in functions over the typed layer. -/
namespace K89
open PySem L2
section
variable {F B : Hp} {Γ : Gam} {M : List Mut1} {ta tb tc te td ty : TE} {tt : TT} {t u : Ty} {ts us : List Ty} {K : PySem.W.Frag} {p : Addr} {m : MTy} {nx bk ct : St → Hp → Prop} {rt : VK} {s1 s2 tbd : TS} {P : St → Hp → Prop} {g : TG}

/-! ### dicts -/
theorem atD_look {κ : Type} [DecidableEq κ] {G : Hp} {k : κ} : ∀ {as : List (κ × Ty)} {vs : List (κ × V)}, AtD as vs G →
    (dLook k as = none ∧ valV vs k = none) ∨ ∃ t v, dLook k as = some t ∧ valV vs k = some v ∧ t.at_ v G
  | [], [], _ => .inl ⟨rfl, rfl⟩
  | a :: as, b :: vs, h => by
    have hk : b.1 = a.1 := h.1
    unfold dLook
    by_cases z : a.1 = k
    · rw [if_pos z, valV_pos (hk.trans z)]
      exact .inr ⟨_, _, rfl, rfl, h.2.1⟩
    · rw [if_neg z, valV_neg (fun q => z (hk.symm.trans q))]
      exact atD_look h.2.2
  | [], _ :: _, h => h.elim
  | _ :: _, [], h => h.elim
theorem atD_append {κ : Type} {G : Hp} {x : κ × Ty} {y : κ × V} (h1 : y.1 = x.1) (h2 : x.2.at_ y.2 G) : ∀ {as : List (κ × Ty)} {vs : List (κ × V)}, AtD as vs G → AtD (as ++ [x]) (vs ++ [y]) G
  | [], [], _ => ⟨h1, h2, trivial⟩
  | a :: as, b :: vs, h => ⟨h.1, h.2.1, atD_append h1 h2 h.2.2⟩
  | [], _ :: _, h => h.elim
  | _ :: _, [], h => h.elim
/-- a new key -/
theorem atD_new {κ : Type} [DecidableEq κ] {G : Hp} {k : κ} {v : V} {as : List (κ × Ty)} {vs : List (κ × V)} (h : AtD as vs G) (hk : dLook k as = none) (a : t.at_ v G) : AtD (as ++ [(k, t)]) (putK vs k v) G := by
  rcases atD_look (k := k) h with ⟨_, e⟩ | ⟨t', v', e, _⟩
  · rw [putK_new v e]
    exact atD_append rfl a h
  · rw [hk] at e
    cases e
/-- the same key again, the same type -/
theorem atD_same {κ : Type} [DecidableEq κ] {G : Hp} {k : κ} {v : V} {as : List (κ × Ty)} {vs : List (κ × V)} (h : AtD as vs G) (hk : ∀ z ∈ as, z.1 = k → z.2.at_ v G) (hi : dLook k as ≠ none) : AtD as (putK vs k v) G := by
  unfold putK
  have ha : (vs.any fun kv => decide (kv.1 = k)) = true := by
    rw [valV_any]
    rcases atD_look (k := k) h with ⟨e, _⟩ | ⟨t', v', _, e, _⟩
    · exact absurd e hi
    · rw [e]
      rfl
  rw [if_pos ha]
  clear ha hi
  induction as generalizing vs with
  | nil => cases vs with
    | nil => exact h
    | cons _ _ => exact h.elim
  | cons a as ih => cases vs with
    | nil => exact h.elim
    | cons b vs =>
      rw [List.map_cons]
      have hb : b.1 = a.1 := h.1
      refine ⟨?_, ?_, ih h.2.2 fun z hz => hk z (List.mem_cons_of_mem _ hz)⟩
      · split
        · exact hb
        · exact hb
      · split
        · rename_i z
          exact hk a (List.mem_cons_self ..) (hb.symm.trans z)
        · exact h.2.1
/-- d[k], d frozen -/
theorem e_dget {kvs : List (Key × Ty)} {k : Key} (hd : E td Γ M (tD kvs)) (hy : E ty Γ M (tV (kV k))) (hk : dLook k kvs = some t) : E (tDGet td ty) Γ M t := fun F B σ H G s g Q q =>
  hd F B σ H G s g _ fun v1 H1 G1 s1 e1 a1 => hy F B σ H1 G1 s1 (g.mono e1) _ fun v2 H2 G2 s2 e2 a2 => by
    have a2' : v2 = kV k := a2
    subst a2'
    obtain ⟨a, o, vs, rfl, ea, av⟩ := a1
    rcases atD_look (k := k) av with ⟨e, _⟩ | ⟨t', v, e, ev, tv⟩
    · rw [hk] at e; cases e
    · rw [hk] at e
      cases e
      exact ⟨a, v, rfl, .inl ⟨vs, k, .inr ⟨o, s2.er a _ (e2 a _ ea)⟩, rfl, ev.symm⟩, q v H2 G2 s2 (e1.trans e2) (t.mono e2 tv)⟩
/-- d[k], d ours -/
theorem e_dgetM {kvs : List (Key × Ty)} {k : Key} (hd : E td Γ M (tR p)) (hm : (p, mD kvs) ∈ M) (hy : E ty Γ M (tV (kV k))) (hk : dLook k kvs = some t) : E (tDGet td ty) Γ M t := fun F B σ H G s g Q q =>
  hd F B σ H G s g _ fun v1 H1 G1 s1 e1 a1 => hy F B σ H1 G1 s1 (g.mono e1) _ fun v2 H2 G2 s2 e2 a2 => by
    have a1' : v1 = .ref p := a1
    have a2' : v2 = kV k := a2
    subst a1' a2'
    obtain ⟨_, _, o, h3, vs, h4, h5⟩ := s2.mm p _ hm
    subst h4
    rcases atD_look (k := k) h5 with ⟨e, _⟩ | ⟨t', v, e, ev, tv⟩
    · rw [hk] at e; cases e
    · rw [hk] at e
      cases e
      exact ⟨p, v, rfl, .inl ⟨vs, k, .inl h3, rfl, ev.symm⟩, q v H2 G2 s2 (e1.trans e2) tv⟩
/-- d[(..)], d ours, its keys tuples -/
theorem tup_key {G : Hp} : ∀ {k : List Key} {ws : List V}, At (k.map fun z => tV (kV z)) ws G → ws = k.map kV
  | [], [], _ => rfl
  | z :: k, w :: ws, h => by
    have e : w = kV z := h.1
    rw [e, tup_key (k := k) h.2]
    rfl
  | [], _ :: _, h => h.elim
  | _ :: _, [], h => h.elim
theorem e_dgetT {kvs : List (List Key × Ty)} {k : List Key} (hd : E td Γ M (tR p)) (hm : (p, mDT kvs) ∈ M) (hy : E ty Γ M (tT (k.map fun z => tV (kV z)))) (hk : dLook k kvs = some t) : E (tDGet td ty) Γ M t := fun F B σ H G s g Q q =>
  hd F B σ H G s g _ fun v1 H1 G1 s1 e1 a1 => hy F B σ H1 G1 s1 (g.mono e1) _ fun v2 H2 G2 s2 e2 a2 => by
    have a1' : v1 = .ref p := a1
    obtain ⟨b, ws, rfl, eb, aw⟩ := a2
    subst a1'
    have ew := tup_key aw
    subst ew
    obtain ⟨_, _, o, h3, vs, h4, h5⟩ := s2.mm p _ hm
    subst h4
    rcases atD_look (k := k) h5 with ⟨e, _⟩ | ⟨t', v, e, ev, tv⟩
    · rw [hk] at e; cases e
    · rw [hk] at e
      cases e
      exact ⟨p, v, rfl, .inr ⟨vs, k, b, .inl h3, rfl, s2.er b _ eb, ev.symm⟩, q v H2 G2 s2 (e1.trans e2) tv⟩
/-- k in d -/
theorem e_din {kvs : List (Key × Ty)} {k : Key} (hy : E ty Γ M (tV (kV k))) (hd : E td Γ M (tD kvs)) : E (tDIn ty td) Γ M (tB (dLook k kvs).isSome) := fun F B σ H G s g Q q =>
  hy F B σ H G s g _ fun v2 H2 G2 s2 e2 a2 => hd F B σ H2 G2 s2 (g.mono e2) _ fun v1 H1 G1 s1 e1 a1 => by
    have a2' : v2 = kV k := a2
    subst a2'
    obtain ⟨a, o, vs, rfl, ea, av⟩ := a1
    rcases atD_look (k := k) av with ⟨e, ev⟩ | ⟨t', v, e, ev, tv⟩
    · exact ⟨a, none, rfl, .inl ⟨vs, k, .inr ⟨o, s1.er a _ ea⟩, rfl, ev.symm⟩, q _ H1 G1 s1 (e2.trans e1) (by rw [e]; rfl)⟩
    · exact ⟨a, some v, rfl, .inl ⟨vs, k, .inr ⟨o, s1.er a _ ea⟩, rfl, ev.symm⟩, q _ H1 G1 s1 (e2.trans e1) (by rw [e]; rfl)⟩
theorem e_dnotin {kvs : List (Key × Ty)} {k : Key} (hy : E ty Γ M (tV (kV k))) (hd : E td Γ M (tD kvs)) : E (tDNotIn ty td) Γ M (tB (!(dLook k kvs).isSome)) := fun F B σ H G s g Q q =>
  hy F B σ H G s g _ fun v2 H2 G2 s2 e2 a2 => hd F B σ H2 G2 s2 (g.mono e2) _ fun v1 H1 G1 s1 e1 a1 => by
    have a2' : v2 = kV k := a2
    subst a2'
    obtain ⟨a, o, vs, rfl, ea, av⟩ := a1
    rcases atD_look (k := k) av with ⟨e, ev⟩ | ⟨t', v, e, ev, tv⟩
    · exact ⟨a, none, rfl, .inl ⟨vs, k, .inr ⟨o, s1.er a _ ea⟩, rfl, ev.symm⟩, q _ H1 G1 s1 (e2.trans e1) (by rw [e]; rfl)⟩
    · exact ⟨a, some v, rfl, .inl ⟨vs, k, .inr ⟨o, s1.er a _ ea⟩, rfl, ev.symm⟩, q _ H1 G1 s1 (e2.trans e1) (by rw [e]; rfl)⟩
/-- (..) in d, d ours -/
theorem e_dinT {kvs : List (List Key × Ty)} {k : List Key} (hy : E ty Γ M (tT (k.map fun z => tV (kV z)))) (hd : E td Γ M (tR p)) (hm : (p, mDT kvs) ∈ M) : E (tDIn ty td) Γ M (tB (dLook k kvs).isSome) := fun F B σ H G s g Q q =>
  hy F B σ H G s g _ fun v2 H2 G2 s2 e2 a2 => hd F B σ H2 G2 s2 (g.mono e2) _ fun v1 H1 G1 s1 e1 a1 => by
    have a1' : v1 = .ref p := a1
    obtain ⟨b, ws, rfl, eb, aw⟩ := a2
    subst a1'
    have ew := tup_key aw
    subst ew
    obtain ⟨_, _, o, h3, vs, h4, h5⟩ := s1.mm p _ hm
    subst h4
    rcases atD_look (k := k) h5 with ⟨e, ev⟩ | ⟨t', v, e, ev, tv⟩
    · exact ⟨p, none, rfl, .inr ⟨vs, k, b, .inl h3, rfl, s1.er b _ (e1 b _ eb), ev.symm⟩, q _ H1 G1 s1 (e2.trans e1) (by rw [e]; rfl)⟩
    · exact ⟨p, some v, rfl, .inr ⟨vs, k, b, .inl h3, rfl, s1.er b _ (e1 b _ eb), ev.symm⟩, q _ H1 G1 s1 (e2.trans e1) (by rw [e]; rfl)⟩
/-- d.get(k) -/
def tOpt : Option Ty → Ty
  | none => tN
  | some t => t
theorem e_get1 {kvs : List (Key × Ty)} {k : Key} (hd : E td Γ M (tD kvs)) (hy : E ty Γ M (tV (kV k))) : E (tDGet1 td ty) Γ M (tOpt (dLook k kvs)) := fun F B σ H G s g Q q =>
  hd F B σ H G s g _ fun v1 H1 G1 s1 e1 a1 => by
    obtain ⟨a, o, vs, rfl, ea, av⟩ := a1
    refine ⟨a, rfl, .inl ⟨vs, .inr ⟨o, s1.er a _ ea⟩⟩, hy F B σ H1 G1 s1 (g.mono e1) _ fun v2 H2 G2 s2 e2 a2 => ?_⟩
    have a2' : v2 = kV k := a2
    subst a2'
    rcases atD_look (k := k) av with ⟨e, ev⟩ | ⟨t', v, e, ev, tv⟩
    · exact ⟨none, .inl ⟨vs, k, .inr ⟨o, s2.er a _ (e2 a _ ea)⟩, rfl, ev.symm⟩, q _ H2 G2 s2 (e1.trans e2) (by rw [e]; rfl)⟩
    · exact ⟨some v, .inl ⟨vs, k, .inr ⟨o, s2.er a _ (e2 a _ ea)⟩, rfl, ev.symm⟩, q _ H2 G2 s2 (e1.trans e2) (by rw [e]; exact t'.mono e2 tv)⟩
/-- d[k] = v, a new key -/
theorem n_dput {tv : TE} {j : Nat} {kvs : List (Key × Ty)} {k : Key} (hj : M[j]? = some (p, mD kvs)) (hv : E tv Γ M t) (hd : E td Γ M (tR p)) (hy : E ty Γ M (tV (kV k))) (hz : kvs.length < 100000) (hk : dLook k kvs = none)
    (kn : N nx F B Γ (M.set j (p, mD (kvs ++ [(k, t)])))) : N (sDPut td ty tv ⟨nx, rt, bk, ct⟩) F B Γ M := fun σ H G s g =>
  hv F B σ H G s g _ fun v1 H1 G1 s1 e1 a1 => hd F B σ H1 G1 s1 (g.mono e1) _ fun v2 H2 G2 s2 e2 a2 => hy F B σ H2 G2 s2 ((g.mono e1).mono e2) _ fun v3 H3 G3 s3 e3 a3 => by
    have a2' : v2 = .ref p := a2
    have a3' : v3 = kV k := a3
    subst a2' a3'
    obtain ⟨_, _, o, h3, vs, h4, h5⟩ := s3.mm p _ (List.mem_of_getElem? hj)
    subst h4
    refine ⟨p, _, rfl, DPut.k h3 (sz6 (by rw [h5.length]; exact hz)), kn _ _ G3 (s3.put hj ⟨_, rfl, atD_new h5 hk (t.mono e3 (t.mono e2 a1))⟩) (((g.mono e1).mono e2).mono e3)⟩
/-- d[k] = v, a key that is there, the same type -/
theorem n_dputS {tv : TE} {j : Nat} {kvs : List (Key × Ty)} {k : Key} (hj : M[j]? = some (p, mD kvs)) (hv : E tv Γ M t) (hd : E td Γ M (tR p)) (hy : E ty Γ M (tV (kV k))) (hz : kvs.length < 100000) (hi : dLook k kvs ≠ none) (hk : ∀ z ∈ kvs, z.1 = k → z.2 = t)
    (kn : N nx F B Γ M) : N (sDPut td ty tv ⟨nx, rt, bk, ct⟩) F B Γ M := fun σ H G s g =>
  hv F B σ H G s g _ fun v1 H1 G1 s1 e1 a1 => hd F B σ H1 G1 s1 (g.mono e1) _ fun v2 H2 G2 s2 e2 a2 => hy F B σ H2 G2 s2 ((g.mono e1).mono e2) _ fun v3 H3 G3 s3 e3 a3 => by
    have a2' : v2 = .ref p := a2
    have a3' : v3 = kV k := a3
    subst a2' a3'
    obtain ⟨_, _, o, h3, vs, h4, h5⟩ := s3.mm p _ (List.mem_of_getElem? hj)
    subst h4
    have a4 := t.mono e3 (t.mono e2 a1)
    have s4 := s3.put (o := .dK (putK vs k v1)) (m' := mD kvs) hj ⟨_, rfl, atD_same h5 (fun z hz e => by rw [hk z hz e]; exact a4) hi⟩
    have e0 : M.set j (p, mD kvs) = M := by
      refine List.ext_getElem? fun i => ?_
      rw [List.getElem?_set]
      by_cases z : j = i
      · subst z
        rw [if_pos rfl, hj]
        exact if_pos (List.getElem?_eq_some_iff.mp hj).1
      · rw [if_neg z]
    rw [e0] at s4
    exact ⟨p, _, rfl, DPut.k h3 (sz6 (by rw [h5.length]; exact hz)), kn _ _ G3 s4 (((g.mono e1).mono e2).mono e3)⟩
/-- d[(..)] = v, a new key -/
theorem n_dputT {tv : TE} {j : Nat} {kvs : List (List Key × Ty)} {k : List Key} (hj : M[j]? = some (p, mDT kvs)) (hv : E tv Γ M t) (hd : E td Γ M (tR p)) (hy : E ty Γ M (tT (k.map fun z => tV (kV z)))) (hz : kvs.length < 100000) (hk : dLook k kvs = none)
    (kn : N nx F B Γ (M.set j (p, mDT (kvs ++ [(k, t)])))) : N (sDPut td ty tv ⟨nx, rt, bk, ct⟩) F B Γ M := fun σ H G s g =>
  hv F B σ H G s g _ fun v1 H1 G1 s1 e1 a1 => hd F B σ H1 G1 s1 (g.mono e1) _ fun v2 H2 G2 s2 e2 a2 => hy F B σ H2 G2 s2 ((g.mono e1).mono e2) _ fun v3 H3 G3 s3 e3 a3 => by
    have a2' : v2 = .ref p := a2
    obtain ⟨b, ws, rfl, eb, aw⟩ := a3
    subst a2'
    have ew := tup_key aw
    subst ew
    obtain ⟨_, _, o, h3, vs, h4, h5⟩ := s3.mm p _ (List.mem_of_getElem? hj)
    subst h4
    exact ⟨p, _, rfl, DPut.t h3 (s3.er b _ eb) (sz6 (by rw [h5.length]; exact hz)), kn _ _ G3 (s3.put hj ⟨_, rfl, atD_new h5 hk (t.mono e3 (t.mono e2 a1))⟩) (((g.mono e1).mono e2).mono e3)⟩

/-! ### freezing a dict -/
def tFzS (t : TS) : TS := fun D σ H => ∃ d u, H d = some u ∧ Mut (some u) ∧ ∀ od, t D σ (upd H d (.frz od u))
theorem ps_fz {X : Cx} {st : Stmt} {t : TS} (h : PS X st t) : PS X st (tFzS t) := by
  refine ⟨fun pins s σ H D I hw => ?_⟩
  obtain ⟨d, u, h1, h2, h3⟩ := hw
  obtain ⟨od, I'⟩ := I.lock h1 h2
  exact h.run pins s σ _ D I' (h3 od)
def tFz (t : TE) : TE := fun σ H Q => t σ H fun v H1 => ∃ d u, v = .ref d ∧ H1 d = some u ∧ Mut (some u) ∧ ∀ od, Q v (upd H1 d (.frz od u))
theorem pe_fz {X : Cx} {e : Expr} {t : TE} (h : PE X e t) : PE X e (tFz t) := by
  refine ⟨fun pins s σ H Q I hw => ?_⟩
  refine thn (h.run pins s σ H _ I hw) fun v s1 ⟨x, H1, I1, r1, d, u, _, h1, h2, h3⟩ => ?_
  obtain ⟨od, I'⟩ := I1.lock h1 h2
  exact ⟨x, _, I', r1, h3 od⟩
theorem frz_dict {kvs : List (Key × Ty)} {H G : Hp} (s : Hs F B ((p, mD kvs) :: M) H G) : ∃ vs, H p = some (.dK vs) ∧ ∀ od, Hs F B M (upd H p (.frz od (.dK vs))) (upd G p (.frz od (.dK vs))) ∧ Er G (upd G p (.frz od (.dK vs))) ∧ (tD kvs).at_ (.ref p) (upd G p (.frz od (.dK vs))) := by
  obtain ⟨h1, h2, o, h3, vs, h4, h5⟩ := s.mm p _ (List.mem_cons_self ..)
  subst h4
  refine ⟨vs, h3, fun od => ?_⟩
  have s1 : Hs F B ((p, ⟨fun o G => o = .frz od (.dK vs) ∧ AtD kvs vs G, fun e h => ⟨h.1, h.2.mono e⟩⟩) :: M) (upd H p (.frz od (.dK vs))) G := s.write ⟨rfl, h5⟩
  obtain ⟨s2, e2⟩ := s1.frz0 (o := .frz od (.dK vs)) upd_same
  exact ⟨s2, e2, p, od, vs, rfl, upd_same, h5.mono e2⟩
theorem e_fz {kvs : List (Key × Ty)} (h : EN te Γ M (mD kvs)) : E (tFz te) Γ M (tD kvs) := fun F B σ H G s g Q q => h F B σ H G s g _ fun p H' G' s' e' => by
  obtain ⟨vs, h1, h2⟩ := frz_dict s'
  refine ⟨p, _, rfl, h1, trivial, fun od => ?_⟩
  obtain ⟨a1, a2, a3⟩ := h2 od
  exact q _ _ _ a1 (e'.trans a2) a3
theorem e_fzx {α : Type} {φ : α → Prop} {f : α → List (Key × Ty)} (h : EN te Γ M (mEx φ fun x => mD (f x))) : E (tFz te) Γ M (tEx φ fun x => tD (f x)) := fun F B σ H G s g Q q => h F B σ H G s g _ fun p H' G' s' e' => by
  obtain ⟨h1, h2, o, h3, x, hx, h4⟩ := s'.mm p _ (List.mem_cons_self ..)
  have s2 : Hs F B ((p, mD (f x)) :: M) H' G' := ⟨s'.er, s'.eb, s'.fr, fun a n z => by
    rcases List.mem_cons.mp z with z | z
    · cases z
      exact ⟨h1, h2, o, h3, h4⟩
    · exact s'.mm a n (List.mem_cons_of_mem _ z), s'.nd⟩
  obtain ⟨vs, g1, g2⟩ := frz_dict s2
  refine ⟨p, _, rfl, g1, trivial, fun od => ?_⟩
  obtain ⟨a1, a2, a3⟩ := g2 od
  exact q _ _ _ a1 (e'.trans a2) ⟨x, hx, a3⟩
/-- return d, d ours -/
theorem n_retD {i j : Nat} {kvs : List (Key × Ty)} (hi : Γ[i]? = some (some (tR p))) (hj : M[j]? = some (p, mD kvs)) (k : Ret F B (tD kvs) rt) : N (tFzS (tRet (tVar i)) ⟨nx, rt, bk, ct⟩) F B Γ M := fun σ H G s g => by
  obtain ⟨vs, h1, h2⟩ := frz_dict (s.perm (perm_at hj).symm)
  obtain ⟨v, g1, g2⟩ := g.get hi
  have g2' : v = .ref p := g2
  subst g2'
  refine ⟨p, _, h1, trivial, fun od => ⟨_, g1, ?_⟩⟩
  obtain ⟨a1, a2, a3⟩ := h2 od
  exact k _ _ _ a1.eb a1.er a1.fr a3
/-- return xs, xs ours -/
theorem n_retL {i j : Nat} (hi : Γ[i]? = some (some (tR p))) (hj : M[j]? = some (p, mL ts)) (k : Ret F B (tL ts) rt) : N (tRet (tVar i) ⟨nx, rt, bk, ct⟩) F B Γ M := n_frz hi hj (n_ret (t := tL ts) (e_var (by
  have hl : i < Γ.length := (List.getElem?_eq_some_iff.mp hi).1
  exact List.getElem?_set_self hl)) k)
end
end K89
set_option Elab.async false
set_option linter.all false
set_option maxRecDepth 100000
set_option maxHeartbeats 4000000
/-! K89R: rules of my own that the hand layer lacks: a walk over a list or a tuple, enumerate of a tuple, zip of a list and a tuple, sum of a tuple, a one-item tuple taken n times, len and list(items()) of a frozen dict, set of a list of ints, repr of data, a call by names alone. -/
namespace K89
open PySem PySem.Spec PyProof.Rows L2

section
variable {X : Cx} {tg l : Expr} {tl : TE}
theorem pi_sq (hl : PE X l tl) : PI X tg l (iSq X.K tl) := by
  refine ⟨fun pins s σ H R I h => thn (hl.run pins s σ H _ I h) fun v s1 ⟨x, H1, I1, r1, q1⟩ => ?_⟩
  obtain ⟨a, rfl, q⟩ := q1
  cases r1
  have fresh : ∀ b ∈ [s1.heap.objs.size], FpOk X pins H1 b := fun b hb => by
    cases List.mem_singleton.mp hb
    exact I1.fpOk (Nat.le_refl _) (I1.hok.fresh (Nat.le_refl _))
  rcases q with ⟨⟨xs, hx⟩, q⟩ | ⟨⟨xs, hx⟩, q⟩
  · obtain ⟨its, _, pl, _⟩ := I1.list hx
    refine wpAny_pyIter_list pl.isList ⟨s1.heap.objs.size, [s1.heap.objs.size], _, _, H1, rfl, ?_, turn_list a _, ⟨_, Heap.get?_push_size _ rfl, rfl, rfl⟩, fresh, q⟩
    exact I1.kept (t' := s1.toks) fun b o e => Heap.get?_push_of_some _ e
  · obtain ⟨its, _, pl, _⟩ := I1.tuple hx
    refine wpAny_pyIter_tuple (show s1.heap.IsTuple a its.toArray from pl) ⟨s1.heap.objs.size, [s1.heap.objs.size], _, _, H1, rfl, ?_, turn_tuple a _, ⟨_, Heap.get?_push_size _ rfl, rfl, rfl⟩, fresh, q⟩
    exact I1.kept (t' := s1.toks) fun b o e => Heap.get?_push_of_some _ e
end

/-! ### enumerate(t), t a tuple -/
set_option maxHeartbeats 4000000 in
theorem meets_enumT (a : Addr) (vs : Array Value) (k : Nat) (dd : Option Addr) (sls : Array (Option Value)) :
    Meets (Builtin.«enumerate.__new__» ⟨[.type "enumerate", .ref a], []⟩) fun _ R z => z.heap.get? a = some { cls := .type "tuple", dict := dd, data := .seq vs k, slots := sls } ∧
      R (.ok (.ret (.ref (z.heap.push { cls := .type "tuple_iterator", data := .fields #[.ref a, .int 0 0] }).objs.size))) { z with heap := (z.heap.push { cls := .type "tuple_iterator", data := .fields #[.ref a, .int 0 0] }).push { cls := .type "enumerate", data := .fields #[.none, .bool false, .ref z.heap.objs.size, rawInt 0, .none, .none] } } :=
  .of_wp fun P' w' A' R' z hz => by
    obtain ⟨hp, gg, dd', tk, oo⟩ := z
    obtain ⟨ha, hR⟩ := hz
    have hs := sub_enumerate
    have hT : Heap.IsTuple (Shared.heap ⟨hp, gg, dd', tk, oo⟩) a vs := ⟨_, ha, rfl, k, rfl⟩
    wp_walk using AutoSeq1.wpAny_loadPart' ha
    refine wpAny_stack_any fun stk => wpAny_pure ?_
    split
    · rename_i cc _ _ _ _ _
      cases (cc == Value.type "enumerate") <;> (wp_walk using AutoSeq1.wpAny_loadPart' ha, wpAny_pyIter_tuple hT; exact ⟨_, rfl, hR⟩)
    · wp_walk using AutoSeq1.wpAny_loadPart' ha, wpAny_pyIter_tuple hT
      exact ⟨_, rfl, hR⟩
theorem call_enumT {P : Program} {w : World} {A : Around} {E : Value → Shared → Prop} {s : Shared} {a : Addr} {vs : Array Value} {Q : Value → Shared → Prop} (ht : s.heap.IsTuple a vs)
    (k : ∀ h', IsEnum h' (s.heap.objs.size + 1) s.heap.objs.size 0 .none → h'.IsTupleIter s.heap.objs.size a 0 → (∀ b o, s.heap.get? b = some o → h'.get? b = some o) → Q (.ref (s.heap.objs.size + 1)) { s with heap := h' }) :
    wpAny (model P w) A (call (.type "enumerate") [.ref a]) Q E s := by
  obtain ⟨⟨oc, od, dt, sls⟩, ha, e1, m, e2⟩ := ht
  cases (show oc = .type "tuple" from e1)
  cases (show dt = .seq vs m from e2)
  refine callType_new F.called_enumerate (by decide) (F.typeCall_enumerate_1 _) (F.newCall_enumerate_1 _) (fun ob => F.args_object_init_2 ob _) F.entry_enumerate_new (meets_enumT a vs m od sls) ⟨ha, ?_⟩
  have sz : (s.heap.push { cls := .type "tuple_iterator", data := .fields #[.ref a, .int 0 0] }).objs.size = s.heap.objs.size + 1 := Heap.size_push ..
  have e0 : ((s.heap.push { cls := .type "tuple_iterator", data := .fields #[.ref a, .int 0 0] }).push { cls := .type "enumerate", data := .fields #[.none, .bool false, .ref s.heap.objs.size, rawInt 0, .none, .none] }).get? (s.heap.objs.size + 1) = some { cls := .type "enumerate", data := .fields #[.none, .bool false, .ref s.heap.objs.size, rawInt 0, .none, .none] } := by
    rw [← sz]
    exact Heap.get?_push_size _ rfl
  show _ ∧ _
  rw [sz]
  exact ⟨⟨_, e0, rfl⟩, k _ e0 ⟨_, Heap.get?_push_of_some _ (Heap.get?_push_size _ rfl), rfl, rfl⟩ fun b o x => Heap.get?_push_of_some _ (Heap.get?_push_of_some _ x)⟩
def IteT (K : PySem.W.Frag) (a : Addr) : It :=
  ⟨fun i H => ∃ xs x, SqT K H a xs ∧ xs[i]? = some x, fun i H v H' => ∃ T x, v = .ref T ∧ H T = none ∧ H' = upd H T (.tup [.int (i : Nat), x]) ∧ ∀ xs, SqT K H a xs → xs[i]? = some x, fun i H => ∃ xs, SqT K H a xs ∧ i = xs.length⟩
theorem turn_enumT {P : Program} {w : World} {K : PySem.W.Frag} {es : List Expr} {kk : Nat} {tp : Pos} (a e it : Addr) (ne : a ≠ it) (nea : e ≠ a) :
    Turn P w K (.Tuple es kk tp) (IteT K a) [e, it] e (fun i h => (∃ old, IsEnum h e it ((i : Nat) : Int) old) ∧ h.IsTupleIter it a i ∧ e ≠ it) where
  mem := List.mem_cons_self ..
  obj := by
    intro i h st b hb
    obtain ⟨⟨old, he⟩, ⟨o, ho, _, hd⟩, _⟩ := st
    rcases List.mem_cons.mp hb with z | z
    · rw [z]
      exact ⟨_, he, fun v q => nomatch q⟩
    · cases List.mem_singleton.mp z
      exact ⟨o, ho, fun v q => by rw [hd] at q; cases q⟩
  keep := by
    intro i h h' st k
    obtain ⟨⟨old, he⟩, hi, hne⟩ := st
    exact ⟨⟨old, k e (List.mem_cons_self ..) _ he⟩, hi.at fun o q => k it (List.mem_cons_of_mem _ (List.mem_singleton.mpr rfl)) o q, hne⟩
  item := by
    intro X hP hw hK hc i pins s σ H E0 I hf st hg
    subst hP hw hK
    obtain ⟨⟨old, he⟩, hit, hne⟩ := st
    obtain ⟨xs, x, hq, hx⟩ := hg
    obtain ⟨its, rv, p, _⟩ := I.tuple hq
    obtain ⟨u, hu, ru⟩ := rv.get hx
    have hu' : its.toArray[i]? = some u := by simpa using hu
    have el : e < s.heap.objs.size := Heap.lt_size he
    have il : it < s.heap.objs.size := by
      obtain ⟨_, q, _⟩ := hit
      exact Heap.lt_size q
    have hi : i < its.toArray.size := (Array.getElem?_eq_some_iff.mp hu').1
    have Dr : Draws X.prog X.w X.A.in1 it [it, a] its.toArray.size (fun i v => its.toArray[i]? = some v) (fun i h => h.IsTupleIter it a i ∧ h.IsTuple a its.toArray) := Draws.tuple (A := X.A.in1) (show X.A.in1.handled = none from I.ok.hd hc) it a ne _
    refine wpAny_pyNext_enum_itemD Dr he ⟨hit, p⟩ hi hne ?_ fun x' h1 tk hP1 ho1 st1 hT1 _ hk1 => ?_
    · intro z
      rcases List.mem_cons.mp z with z | z
      · exact hne z
      · exact nea (List.mem_singleton.mp z)
    rw [hu'] at hP1
    cases hP1
    refine ⟨_, rfl, wpAny_letOwnedTupleGo_enum (s := { s with heap := h1, toks := tk + 1 }) ho1 fun h2 he2 sb => ?_⟩
    have hT2 : h2.get? s.heap.objs.size = some { cls := .type "tuple", data := .seq #[.int i tk, u] } := (sb.2 _ (Nat.ne_of_gt el)).trans hT1
    have I1 : Inv X pins σ (upd H s.heap.objs.size (.tup [.int (i : Nat), x])) { s with heap := h2, toks := tk + 1 } := by
      refine I.turnedNew (ch := [e, it]) (fun b ob hb q => ?_) hf (Nat.le_refl _) ⟨by show 2 ≤ sizeLine; decide, [.int i tk, u], .cons ⟨_, rfl⟩ (.cons ru .nil), ⟨_, hT2, rfl, _, rfl⟩⟩
      have b1 : b ≠ e := fun z => hb (z ▸ List.mem_cons_self ..)
      have b2 : b ≠ it := fun z => hb (z ▸ List.mem_cons_of_mem _ (List.mem_singleton.mpr rfl))
      exact (sb.2 b b1).trans (hk1 b ob b1 b2 q)
    refine ⟨.ref s.heap.objs.size, _, I1, rfl, ⟨_, x, rfl, I.hok.fresh (Nat.le_refl _), rfl, fun ys hy => by rw [I.tuple_inj hy hq]; exact hx⟩, ⟨⟨u, ?_⟩, st1.1.at fun o q => (sb.2 it (Ne.symm hne)).trans q, hne⟩, fun b hb => ?_⟩
    · rw [show ((i + 1 : Nat) : Int) = (i : Int) + 1 from Int.natCast_succ i]
      exact he2
    · rw [upd_ne]
      · exact (hf b hb).1
      · rcases List.mem_cons.mp hb with z | z
        · rw [z]
          exact Nat.ne_of_lt el
        · rw [List.mem_singleton.mp z]
          exact Nat.ne_of_lt il
  done := by
    intro X hP hw hK hc i pins s σ H E0 I hf st hg
    subst hP hw hK
    obtain ⟨⟨old, he⟩, hit, hne⟩ := st
    obtain ⟨xs, hq, hx⟩ := hg
    obtain ⟨its, rv, p, _⟩ := I.tuple hq
    have hl := rv.length
    have hi : i = its.toArray.size := by
      rw [List.size_toArray]
      omega
    subst hi
    have Dr : Draws X.prog X.w X.A.in1 it [it, a] its.toArray.size (fun i v => its.toArray[i]? = some v) (fun i h => h.IsTupleIter it a i ∧ h.IsTuple a its.toArray) := Draws.tuple (A := X.A.in1) (show X.A.in1.handled = none from I.ok.hd hc) it a ne _
    refine wpAny_pyNext_enum_endD Dr he ⟨hit, p⟩ fun h' eb => ⟨rfl, ?_⟩
    obtain ⟨f0, f1, f2, f3, f4, f5⟩ := hf it (List.mem_cons_of_mem _ (List.mem_singleton.mpr rfl))
    exact I.turned (t' := s.toks) (fun b o hb q => eb b o hb q) f0 f1 f3 f4 f5
  self := fun A i s Q E0 st h => by
    obtain ⟨⟨_, he⟩, _⟩ := st
    exact wpAny_pyIter_enum he h
def iEnumT (K : PySem.W.Frag) (ta : TA) : TI := fun σ H R => ta σ H fun vs H1 => ∃ a xs, vs = [.ref a] ∧ SqT K H1 a xs ∧ R (IteT K a) H1
theorem pi_enumT {X : Cx} {e : Expr} {ta : TA} {p pos tpos : Pos} {elts : List Expr} {kk : Nat} (hg : Gl X "enumerate") (hm : X.mg "enumerate" = none) (ha : PA X [e] ta) (hs : starEach [e] X.env = [(false, eval e X.env)] := by rfl) :
    PI X (.Tuple elts kk tpos) (.Call (.Name "enumerate" p) [e] [] pos) (iEnumT X.K ta) := by
  refine ⟨fun pins s σ H R I h => Call_ (ld_blt I hg hm boot_enumerate (callWith_type1 (thn (ha.run pos pins s σ H _ I h) fun us s1 ⟨vs, H1, I1, r1, q1⟩ => ?_) hs rfl))⟩
  obtain ⟨a, xs, rfl, hq, q⟩ := q1
  rw [Vals.ref1 r1]
  obtain ⟨its, rv, pt, _⟩ := I1.tuple hq
  have hal : a < s1.heap.objs.size := pt.lt
  refine call_enumT (show s1.heap.IsTuple a its.toArray from pt) fun h' he hit hk => wpAny_pyIter_enum he ?_
  refine ⟨s1.heap.objs.size + 1, [s1.heap.objs.size + 1, s1.heap.objs.size], _, _, H1, rfl, I1.kept (t' := s1.toks) hk, turn_enumT a (s1.heap.objs.size + 1) s1.heap.objs.size (Nat.ne_of_lt hal) (Nat.ne_of_gt (Nat.lt_succ_of_lt hal)), ⟨⟨.none, he⟩, hit, Nat.succ_ne_self _⟩, fun b hb => ?_, q⟩
  have hle : s1.heap.objs.size ≤ b := by
    rcases List.mem_cons.mp hb with z | z
    · rw [z]
      exact Nat.le_succ _
    · rw [List.mem_singleton.mp z]
      exact Nat.le_refl _
  exact I1.fpOk hle (I1.hok.fresh hle)
theorem walk_enumT {K : PySem.W.Frag} {a : Addr} {xs : List V} : Walk (IteT K a) xs.length (fun H => SqT K H a xs) (YPair (fun i => some (.int (i : Nat))) (fun i => xs[i]?)) := by
  refine ⟨fun i _ hi q => ⟨xs, xs[i], q, by simp [hi]⟩, fun _ q => ⟨xs, q, rfl⟩, fun i H v H' _ q y => ?_⟩
  obtain ⟨T, x, h1, h2, h3, h4⟩ := y
  exact ⟨T, .int (i : Nat), x, h1, h2, h3, rfl, h4 xs q⟩
section
variable {Γ : Gam} {M : List Mut1} {t u : Ty} {ts us : List Ty} {K : PySem.W.Frag}
theorem src_enumT {ta : TA} (h : EA ta Γ M [tT ts]) : Src (iEnumT K ta) Γ M (enumT ts) := fun F B σ H G s g R q => h F B σ H G s g _ fun vs H' G' s' e' a => by
  match vs, a with
  | [v], a =>
    obtain ⟨b, ws, rfl, eb, aw⟩ := a.1
    refine ⟨b, ws, rfl, SqT.of (s'.er b _ eb), q _ H' G' s' e' ⟨fun H => SqT K H b ws, YPair (fun i => some (.int (i : Nat))) (fun i => ws[i]?), ?_, fun H e => SqT.of (e b _ eb), fun i t x H1 H2 G1 hi e1 e2 y => ?_⟩⟩
    · have w := walk_enumT (K := K) (a := b) (xs := ws)
      rw [enum_len, ← aw.length]
      exact w
    · obtain ⟨T, x1, x2, rfl, hT, rfl, h1, h2⟩ := y
      obtain ⟨u, hu, rfl⟩ := enum_at hi
      obtain ⟨u', hu', au⟩ := aw.get' h2
      rw [hu] at hu'
      cases hu'
      cases Option.some.inj h1
      exact pair_ok e2 hT rfl (u.mono e1 au)
end
end K89
set_option Elab.async false
set_option linter.all false
set_option maxRecDepth 100000
set_option maxHeartbeats 4000000
/-! K89R2: zip of a list and a tuple; sums of tuples; one-item tuples; frozen dicts' len and items; sets of ints; repr; calls by names alone. -/
namespace K89
open PySem PySem.Spec PyProof.Rows L2

/-! ### zip(xs, t) -/
def ItzM (K : PySem.W.Frag) (a b : Addr) : It :=
  ⟨fun i H => ∃ (xs ys : List V) (x y : V), SqL K H a xs ∧ SqT K H b ys ∧ xs.length = ys.length ∧ xs[i]? = some x ∧ ys[i]? = some y,
    fun i H v H' => ∃ T x y, v = .ref T ∧ H T = none ∧ H' = upd H T (.tup [x, y]) ∧ (∀ xs, SqL K H a xs → xs[i]? = some x) ∧ ∀ ys, SqT K H b ys → ys[i]? = some y,
    fun i H => ∃ xs ys : List V, SqL K H a xs ∧ SqT K H b ys ∧ i = xs.length ∧ i = ys.length⟩
theorem nA {n i j : Nat} (h : i ≠ j) : (n + i : Nat) ≠ n + j := by omega
theorem nB {n a i : Nat} (h : a < n) : (n + i : Nat) ≠ a := by omega
theorem nI {x y z : Nat} (h1 : x ≠ y) (h2 : x ≠ z) : x ∉ [y, z] := by simp [h1, h2]
theorem sepM {n a b : Addr} (ha : a < n) (hb : b < n) : ZipSep2 (n + 4) (n + 2) (n + 3) n (n + 1) [n, a] [n + 1, b] :=
  ⟨nA (by decide), nA (by decide), nA (by decide), nA (j := 0) (by decide), List.mem_cons_self .., nI (nA (j := 0) (by decide)) (nB ha), nI (nA (j := 0) (by decide)) (nB ha), nA (by decide), List.mem_cons_self ..,
    nI (nA (by decide)) (nB hb), nI (nA (by decide)) (nB hb), nI (nA (i := 0) (by decide)) (nB (i := 0) hb), nI (nA (j := 0) (by decide)) (nB ha)⟩
theorem turn_zipM {P : Program} {w : World} {K : PySem.W.Frag} {elts : List Expr} {kk : Nat} {tpos : Pos} {n a b : Addr} (ha : a < n) (hb : b < n) :
    Turn P w K (.Tuple elts kk tpos) (ItzM K a b) [n + 4, n + 2, n + 3, n, n + 1] (n + 4) (fun i h => IsZip h (n + 4) (n + 2) (n + 3) .none ∧ IsTupOf2 h (n + 2) (.ref n) (.ref (n + 1)) ∧ (∃ x y, IsTupOf2 h (n + 3) x y) ∧ h.IsListIter n a i ∧ h.IsTupleIter (n + 1) b i) where
  mem := List.mem_cons_self ..
  obj := by
    intro i h st c hc
    obtain ⟨hz, hTI, ⟨x, y, hTO⟩, ⟨o1, e1, _, d1⟩, ⟨o2, e2, _, d2⟩⟩ := st
    simp only [List.mem_cons, List.mem_singleton, List.not_mem_nil, or_false] at hc
    rcases hc with q | q | q | q | q <;> rw [q]
    · exact ⟨_, hz, fun v q => nomatch q⟩
    · exact ⟨_, hTI, fun v q => nomatch q⟩
    · exact ⟨_, hTO, fun v q => nomatch q⟩
    · exact ⟨o1, e1, fun v q => by rw [d1] at q; cases q⟩
    · exact ⟨o2, e2, fun v q => by rw [d2] at q; cases q⟩
  keep := by
    intro i h h' st k
    obtain ⟨hz, hTI, ⟨x, y, hTO⟩, h1, h2⟩ := st
    exact ⟨k _ (by simp) _ hz, k _ (by simp) _ hTI, ⟨x, y, k _ (by simp) _ hTO⟩, h1.at fun o q => k _ (by simp) o q, h2.at fun o q => k _ (by simp) o q⟩
  item := by
    intro X hP hw hK hc i pins s σ H E0 I hf st hg
    subst hP hw hK
    obtain ⟨hz, hTI, ⟨x0, y0, hTO⟩, h1, h2⟩ := st
    obtain ⟨xs, ys, x, y, hqx, hqy, _, hx, hy⟩ := hg
    obtain ⟨its, rv, p, _⟩ := I.list hqx
    obtain ⟨its2, rv2, p2, _⟩ := I.tuple hqy
    obtain ⟨u, hu, ru⟩ := rv.get hx
    obtain ⟨u2, hu2, ru2⟩ := rv2.get hy
    have hu' : its.toArray[i]? = some u := by simpa using hu
    have hu2' : its2.toArray[i]? = some u2 := by simpa using hu2
    have sz : n + 4 < s.heap.objs.size := Heap.lt_size hz
    have hh : X.A.in1.handled = none := I.ok.hd hc
    refine wpAny_pyNext_zipD2_item (sepM ha hb) (Draws.list hh n a (Nat.ne_of_lt ha) its.toArray) (Draws.tuple hh (n + 1) b (Nat.ne_of_lt (Nat.lt_succ_of_lt hb)) its2.toArray) hz hTI hTO ⟨h1, p.isList⟩ ⟨h2, p2⟩
      (Array.getElem?_eq_some_iff.mp hu').1 (Array.getElem?_eq_some_iff.mp hu2').1 fun x1 x2 h' tk q1 q2 z' TO' st1 st2 hT _ hk => ?_
    rw [hu'] at q1
    cases q1
    rw [hu2'] at q2
    cases q2
    refine ⟨_, rfl, wpAny_letOwnedTupleGo_zip (s := { s with heap := h', toks := tk }) z' fun h'' z'' sb => ?_⟩
    have hT2 : h''.get? s.heap.objs.size = some { cls := .type "tuple", data := .seq #[u, u2] } := (sb.2 _ (Nat.ne_of_gt sz)).trans hT
    have I1 : Inv X pins σ (upd H s.heap.objs.size (.tup [x, y])) { s with heap := h'', toks := tk } := by
      refine I.turnedNew (ch := [n + 4, n + 2, n + 3, n, n + 1]) (fun c o hn q => ?_) hf (Nat.le_refl _) ⟨by show 2 ≤ sizeLine; decide, [u, u2], .cons ru (.cons ru2 .nil), ⟨_, hT2, rfl, _, rfl⟩⟩
      simp only [List.mem_cons, List.mem_singleton, List.not_mem_nil, or_false, not_or] at hn
      exact (sb.2 c hn.1).trans (hk c o hn.1 hn.2.2.1 hn.2.2.2.1 hn.2.2.2.2 q)
    have n1 : (n : Addr) ≠ n + 4 := nA (i := 0) (by decide)
    have n2 : (n + 1 : Addr) ≠ n + 4 := nA (by decide)
    have n3 : (n + 2 : Addr) ≠ n + 4 := nA (by decide)
    have n4 : (n + 3 : Addr) ≠ n + 4 := nA (by decide)
    refine ⟨.ref s.heap.objs.size, _, I1, rfl, ⟨_, x, y, rfl, I.hok.fresh (Nat.le_refl _), rfl, fun l hl => by rw [I.list_inj hl hqx]; exact hx, fun l hl => by rw [I.tuple_inj hl hqy]; exact hy⟩,
      ⟨z'', (sb.2 _ n3).trans (hk _ _ n3 (nA (by decide)) (nA (j := 0) (by decide)) (nA (by decide)) hTI), ⟨u, u2, (sb.2 _ n4).trans TO'⟩, st1.1.at fun o q => (sb.2 _ n1).trans q, st2.1.at fun o q => (sb.2 _ n2).trans q⟩, fun c hcm => ?_⟩
    have up : ∀ i, i ≤ 4 → (n : Nat) + i < s.heap.objs.size := fun i hi => Nat.lt_of_le_of_lt (Nat.add_le_add_left hi n) sz
    have hlt : c < s.heap.objs.size := by
      simp only [List.mem_cons, List.mem_singleton, List.not_mem_nil, or_false] at hcm
      rcases hcm with q | q | q | q | q <;> rw [q]
      · exact up 4 (by decide)
      · exact up 2 (by decide)
      · exact up 3 (by decide)
      · exact up 0 (by decide)
      · exact up 1 (by decide)
    rw [upd_ne (Nat.ne_of_lt hlt)]
    exact (hf c hcm).1
  done := by
    intro X hP hw hK hc i pins s σ H E0 I hf st hg
    subst hP hw hK
    obtain ⟨hz, hTI, ⟨x0, y0, hTO⟩, h1, h2⟩ := st
    obtain ⟨xs, ys, hqx, hqy, e1, e2⟩ := hg
    obtain ⟨its, rv, p, _⟩ := I.list hqx
    obtain ⟨its2, rv2, p2, _⟩ := I.tuple hqy
    have l1 := rv.length
    have l2 := rv2.length
    have hh : X.A.in1.handled = none := I.ok.hd hc
    have k1 : i = its.toArray.size := by rw [List.size_toArray]; omega
    have k2 : i = its2.toArray.size := by rw [List.size_toArray]; omega
    refine wpAny_pyNext_zipD2_end (sepM ha hb) (Draws.list hh n a (Nat.ne_of_lt ha) its.toArray) (Draws.tuple hh (n + 1) b (Nat.ne_of_lt (Nat.lt_succ_of_lt hb)) its2.toArray) hz hTI hTO ⟨h1, p.isList⟩ ⟨h2, p2⟩
      (Nat.le_of_eq k1) (Nat.le_of_eq k2) (Or.inl k1) fun h' tk hk => ⟨rfl, I.turnedL (ch := [n + 4, n + 2, n + 3, n, n + 1]) (fun c o hn q => ?_) hf⟩
    simp only [List.mem_cons, List.mem_singleton, List.not_mem_nil, or_false, not_or] at hn
    exact hk c o hn.1 hn.2.2.1 hn.2.2.2.1 hn.2.2.2.2 q
  self := by
    intro A i s Q E0 st h
    exact wpAny_pyIter_zip st.1 h
def iZipM (K : PySem.W.Frag) (ta : TA) : TI := fun σ H R => ta σ H fun vs H1 => ∃ a b xs ys, vs = [.ref a, .ref b] ∧ SqL K H1 a xs ∧ SqT K H1 b ys ∧ R (ItzM K a b) H1
theorem pi_zipM {X : Cx} {e e2 : Expr} {ta : TA} {p pos tpos : Pos} {elts : List Expr} {kk : Nat} (hg : Gl X "zip") (hm : X.mg "zip" = none) (ha : PA X [e, e2] ta)
    (hs : starEach [e, e2] X.env = (false, eval e X.env) :: starEach [e2] X.env := by rfl) (hpl : (backTo pos (starEach [e2] X.env)).any (·.1) = false := by rfl) : PI X (.Tuple elts kk tpos) (.Call (.Name "zip" p) [e, e2] [] pos) (iZipM X.K ta) := by
  refine ⟨fun pins s σ H R I h => Call_ (ld_blt I hg hm boot_zip (callWith_type1 (thn (ha.run pos pins s σ H _ I h) fun us s1 ⟨vs, H1, I1, r1, q1⟩ => ?_) hs hpl))⟩
  obtain ⟨a, b, xs, ys, rfl, hqx, hqy, q⟩ := q1
  obtain ⟨u1, u2, rfl, rx, ry⟩ := vals2 r1
  cases rx
  cases ry
  obtain ⟨its, rv, p1, _⟩ := I1.list hqx
  obtain ⟨its2, rv2, p2, _⟩ := I1.tuple hqy
  have la : a < s1.heap.objs.size := p1.lt
  have lb : b < s1.heap.objs.size := p2.lt
  refine zip_begins2 (begins_list a its.toArray) (begins_tuple b its2.toArray) p1.isList p2 fun h' hz hTI hTO h1 h2 hsz hk => wpAny_pyIter_zip hz ?_
  refine ⟨s1.heap.objs.size + 4, _, _, _, H1, rfl, I1.kept (t' := s1.toks) hk, turn_zipM la lb, ⟨hz, hTI, ⟨_, _, hTO⟩, ⟨_, h1, rfl, rfl⟩, ⟨_, h2, rfl, rfl⟩⟩, fun c hcm => ?_, q⟩
  have hle : s1.heap.objs.size ≤ c := by
    simp only [List.mem_cons, List.mem_singleton, List.not_mem_nil, or_false] at hcm
    rcases hcm with z | z | z | z | z <;> rw [z] <;> first | exact Nat.le_add_right _ _ | exact Nat.le_refl _
  exact I1.fpOk hle (I1.hok.fresh hle)
theorem walk_zipM {K : PySem.W.Frag} {a b : Addr} {xs ys : List V} (hn : xs.length = ys.length) : Walk (ItzM K a b) xs.length (fun H => SqL K H a xs ∧ SqT K H b ys) (YPair (fun i => xs[i]?) (fun i => ys[i]?)) := by
  refine ⟨fun i _ hi q => ⟨xs, ys, xs[i], ys[i]'(by omega), q.1, q.2, hn, by simp [hi], by simp [show i < ys.length by omega]⟩, fun _ q => ⟨xs, ys, q.1, q.2, rfl, hn⟩, fun i H v H' _ q y => ?_⟩
  obtain ⟨T, x, z, h1, h2, h3, h4, h5⟩ := y
  exact ⟨T, x, z, h1, h2, h3, h4 xs q.1, h5 ys q.2⟩
section
variable {Γ : Gam} {M : List Mut1} {t u : Ty} {ts us : List Ty} {K : PySem.W.Frag}
theorem src_zipM {ta : TA} (h : EA ta Γ M [tL ts, tT us]) (hl : ts.length = us.length) : Src (iZipM K ta) Γ M ((ts.zip us).map fun p => tT [p.1, p.2]) := fun F B σ H G s g R q => h F B σ H G s g _ fun vs H' G' s' e' a => by
  match vs, a with
  | [v, w], a =>
    obtain ⟨b, xs, rfl, eb, ax⟩ := a.1
    obtain ⟨c, ys, rfl, ec, ay⟩ := a.2.1
    have hxy : xs.length = ys.length := by rw [ax.length, ay.length, hl]
    refine ⟨b, c, xs, ys, rfl, SqL.of (s'.er b _ eb), SqT.of (s'.er c _ ec), q _ H' G' s' e' ⟨fun H => SqL K H b xs ∧ SqT K H c ys, YPair (fun i => xs[i]?) (fun i => ys[i]?), ?_, fun H e => ⟨SqL.of (e b _ eb), SqT.of (e c _ ec)⟩, fun i t x H1 H2 G1 hi e1 e2 y => ?_⟩⟩
    · have wk := walk_zipM (K := K) (a := b) (b := c) hxy
      have e0 : ((ts.zip us).map fun p => tT [p.1, p.2]).length = xs.length := by
        rw [List.length_map, List.length_zip, ax.length]
        omega
      rw [e0]
      exact wk
    · obtain ⟨T, x1, x2, rfl, hT, rfl, h1, h2⟩ := y
      obtain ⟨t1, g1, a1⟩ := ax.get' h1
      obtain ⟨t2, g2, a2⟩ := ay.get' h2
      rw [List.getElem?_map, (List.getElem?_zip_eq_some (z := (t1, t2))).mpr ⟨g1, g2⟩] at hi
      cases Option.some.inj hi
      exact pair_ok e2 hT (t1.mono e1 a1) (t2.mono e1 a2)
end

/-! ### sum(t) -/
theorem sum_tup {P : Program} {w : World} {A : Around} {E : Value → Shared → Prop} {s : Shared} {a : Addr} {its : List Value} {ns : List Int} {Q : Value → Shared → Prop} (hh : A.handled = none) (ht : s.heap.IsTuple a its.toArray) (hi : IntsAre its ns)
    (k : ∀ h' tk t', (∀ b o, s.heap.get? b = some o → h'.get? b = some o) → Q (.int ns.sum t') { s with heap := h', toks := tk }) : wpAny (model P w) A (call (.builtin "sum") [.ref a]) Q E s := by
  obtain ⟨xs, e⟩ := hi.allInts.items
  have hn : numsOf (intItems xs).toList = ns := by
    rw [← e]
    exact hi.numsOf
  rw [nums_intItems] at hn
  rw [e] at ht
  have al : a < s.heap.objs.size := by
    obtain ⟨_, z, _⟩ := ht
    exact Heap.lt_size z
  have z1 : (s.heap.push { cls := .type "tuple_iterator", data := .fields #[.ref a, .int 0 0] }).objs.size = s.heap.objs.size + 1 := Heap.size_push ..
  refine call_sum_walkG (wpAny_pyIter_tuple ht ⟨_, _, _, _, _, _, numAt xs, rfl, Walks.tuple (A := A.in1) hh _ a (Nat.ne_of_lt al) (intItems xs), ⟨⟨_, Heap.get?_push_size _ rfl, rfl, rfl⟩, ht.push _⟩, fun b hb => ?_, fun _ _ => intItems_at, fun h' tk t' hk => ?_⟩)
  · show b < (s.heap.push _).objs.size
    rw [z1]
    rcases List.mem_cons.mp hb with z | z
    · rw [z]
      exact Nat.lt_succ_self _
    · rw [List.mem_singleton.mp z]
      exact Nat.lt_succ_of_lt al
  · have k2 := k h' tk t' fun b o z => hk b o (fun m => by
      rw [List.mem_singleton.mp m] at z
      exact Nat.lt_irrefl _ (Heap.lt_size z)) (Heap.get?_push_of_some _ z)
    have e2 : preSum (numAt xs) (intItems xs).size = ns.sum := by
      have e3 : (intItems xs).size = xs.size := by simp [intItems]
      rw [e3, preSum_eq, List.take_of_length_le (by simp), hn]
    rw [e2]
    exact k2
def rSumT (K : PySem.W.Frag) : List V → Hp → VK → Prop := fun vs H Q => ∃ (a : Addr) (ns : List Int), vs = [V.ref a] ∧ SqT K H a (ns.map V.int) ∧ Q (.int ns.sum) H
theorem cr_sumT {X : Cx} (hc : X.calm = true) : CallR X (.builtin "sum") (rSumT X.K) := by
  intro pins s σ H vs us Q I r h
  obtain ⟨a, ns, rfl, hs, q⟩ := h
  obtain ⟨its, rv, pt, _⟩ := I.tuple hs
  rw [Vals.ref1 r]
  exact sum_tup (I.ok.hd hc) pt rv.ints fun h' tk t' hk => ⟨.int _, H, I.kept hk, ⟨_, rfl⟩, q⟩

/-! ### a frozen dict: len, list(items()) -/
def rLenF : List V → Hp → VK → Prop := fun xs H Q => ∃ a o kvs, xs = [V.ref a] ∧ H a = some (.frz o (.dK kvs)) ∧ Q (.int kvs.length) H
theorem call_lenF {X : Cx} : CallR X (.builtin "len") rLenF := by
  intro pins s σ H xs us Q I r h
  obtain ⟨a, o, kvs, rfl, ha, q⟩ := h
  rw [Vals.ref1 r]
  exact d_len I (.inr ⟨o, ha⟩) fun t s' I' => ⟨.int kvs.length, H, I', ⟨t, rfl⟩, q⟩
def rItemsF : V → Hp → VK → Prop := fun x H Q => ∃ (d : Addr) (o : Obj) (kvs : List (Key × V)), x = .ref d ∧ H d = some (.frz o (.dK kvs)) ∧
  ∀ (H' : Hp) (p : Addr) (ts : List Addr), (∀ b o, H b = some o → H' b = some o) → H p = none → (∀ t ∈ ts, H t = none) → p ∉ ts → H' p = some (.lst (ts.map V.ref)) → Paired (fun (t : Addr) (q : Key × V) => H' t = some (.tup [kV q.1, q.2])) ts kvs → Q (.ref p) H'
def tItemsF (te : TE) : TE := fun σ H Q => te σ H fun x H1 => rItemsF x H1 Q
theorem pe_itemsF {X : Cx} {e : Expr} {te : TE} {p apos cpos pos : Pos} (hc : X.calm = true) (he : PE X e te) (hg : Gl X "list") (hm : X.mg "list" = none) (hv : bootBuiltins "list" = some (.type "list")) (hb : attributeBase e "items" X.env (eval e X.env) = eval e X.env := by rfl)
    (hl : (apos.endLine == cpos.line) = true := by rfl) (hs : starEach [.Call (.Attribute e "items" apos) [] [] cpos] X.env = (false, eval (.Call (.Attribute e "items" apos) [] [] cpos) X.env) :: starEach [] X.env := by rfl) :
    PE X (.Call (.Name "list" p) [.Call (.Attribute e "items" apos) [] [] cpos] [] pos) (tItemsF te) := by
  refine ⟨fun pins s σ H Q I hq => wpAny_Call_Name_kw (ld_blt I hg hm hv (callWith_type1 ?_ hs rfl))⟩
  rw [hs]
  show wpAny _ _ (spliced ((false, eval (.Call (.Attribute e "items" apos) [] [] cpos) X.env) :: backTo pos (starEach [] X.env))) _ _ s
  refine Calls.spliced_cons (wpAny_Call_method (T := "dict") (id := "dict.items") hb rfl hl F.plainAttrs_dict F.slot_dict_items F.type_dict_items (thn (he.run pins s σ H _ I hq) fun u s1 ⟨x, H1, I1, rx, d, od, kvs, ex, hd, q⟩ => ?_))
  subst ex
  cases (show u = Value.ref d from rx)
  obtain ⟨_, hz, hs0, vs, kv, hdo⟩ := I1.hok d _ hd
  obtain ⟨ep, hat⟩ := hdo.dictAt
  have lk := Paired.length kv
  refine ⟨hdo.typeIs, hdo.mapOf.noDict, ?_⟩
  show wpAny _ _ (callWith cpos (.builtin "dict.items") [.ref d] [] []) _ X.xe s1
  refine method_meetsIn F.slot_dict_items F.entry_dict_items rfl (PySem.evalArgs_none ⟨rfl, hdo.typeIs, F.args_dict_items_1 _, _, meets_dict_items (mixKind X.prog X.w) d hs0, ⟨vs, hdo⟩, Calls.spliced_nil ?_⟩)
  refine PySem.W.kdx_call (knd := mixKind X.prog X.w) (kvs := vs) (ep := ep) (I1.ok.hd hc) ⟨_, Heap.get?_push_size _ rfl, rfl, rfl⟩ (hat.push _) (by omega) fun h' tk acc c as hk hS hl hG hacc => ?_
  have I2 : Inv X pins σ H1 { s1 with heap := s1.heap.push { cls := .type "dict_items", data := .fields #[.ref d] } } := I1.kept (t' := s1.toks) fun b ob q => Heap.get?_push_of_some _ q
  obtain ⟨H', k1, k2, k3, k4, k5, k6, J⟩ := LiI.items_laid (tk := tk) I2 hz kv hk hS hl hG hacc
  exact ⟨.ref _, H', J, rfl, q H' _ as k1 k2 k3 k4 k5 k6⟩

/-! ### f(k = v, ..) -/
theorem pe_callK0 {X : Cx} {CX : CXT} {k : Nat} {f : Addr} {fd : FuncData} {ps ks : List Str} {sp : Sp} {E0 : XK} {x : Str} {p pos : Pos} {kws : List Keyword} {tk : TA} {g : List Value → List Value → List Value} {gV : List V → List V → List V}
    (F : FnOk X.prog X.w X.K X.mg X.base CX k f fd ps sp) (hr : Room k X.A) (hg : Gl X x) (hm : X.mg x = some (.ref f)) (hk : PySem.W.keepIn X.K (.ref f) = true) (hb : KBinds X.K fd ps ks g gV) (hx : Passes CX X E0) (hkw : PK X kws tk)
    (hall : (backToKw pos (keywordEach kws X.env)).all (·.1.isSome) = true := by rfl) (hks : (backToKw pos (keywordEach kws X.env)).filterMap (·.1) = ks := by rfl) (hdb : (x == ("__debug__" : Str)) = false := by decide)
    (hpl : ((backTo pos (starEach [] X.env)).any (·.1) || (backToKw pos (keywordEach kws X.env)).any (·.1.isNone)) = false := by rfl) : PE X (.Call (.Name x p) [] kws pos) (tCallK sp gV E0 tNil tk) := by
  refine ⟨fun pins s σ H Q I h => wpAny_Call_Name_kw (ld_glob I hg hm (PySem.W.callWith_KW0 (h₀ := X.base) I.ok.mod.kin hk hall (thn (hkw.run pos pins s σ H _ I h) fun ws s2 ⟨zs, H2, I2, rz, q2⟩ => ⟨I2.kIn, ?_⟩) hpl) hdb)⟩
  rw [hks]
  exact run_fnk (us := []) (vs := []) F hr hb hx I2 .nil rz q2
end K89
set_option Elab.async false
set_option linter.all false
set_option maxRecDepth 100000
set_option maxHeartbeats 4000000
/-! K89R3: set(xs) of a list of ints; t * 1 of a tuple. -/
namespace K89
open PySem PySem.Spec PyProof.Rows L2
/-- an empty set as set.__new__ lays it -/
abbrev oSet (w : World) : Obj := { cls := .type "set", dict := none, data := .set #[] 0 (.fresh 0 0 (!w.params.followText "set-order")) }
section
variable {P : Program} {w : World} {A : Around} {E : Value → Shared → Prop} {s : Shared}
set_option maxRecDepth 100000 in
set_option maxHeartbeats 3200000 in
theorem set_of_list {l : Addr} {its : Array Value} (zs : List Int) {Q : Value → Shared → Prop} (hA : A.handled = none) (pl : s.heap.IsList l its) (hi : IntsAre its.toList zs) (hm : zs.length + 1 < scanBound)
    (fin : ∀ (hp : Heap) (tk n : Nat), SetR w hp s.heap.objs.size (fun j => decide (j ∈ zs)) n → n ≤ zs.length → (∀ b o, s.heap.get? b = some o → hp.get? b = some o) → Q (.ref s.heap.objs.size) { s with heap := hp, toks := tk }) :
    wpAny (model P w) A (call (.type "set") [.ref l]) Q E s := by
  have eN : its.size = zs.length := by
    rw [← Array.length_toList]
    exact IntsAre.length hi
  obtain ⟨cl, tls, k_mro⟩ := F.called_set.mro
  have k_made := F.called_set.made
  have k_sub := F.called_set.sub
  refine wpAny_call (codeAny_of_tree ?_)
  show wpAny _ _ (callAny (.type "set") _) _ _ _
  refine wpAny_pure ⟨Code.quiet_builtin _ (by decide +kernel), codeAny_builtin F.entry_type_call ?_⟩
  rw [Around.under_plain (weight_type_call_type "set" [.ref l] []) rfl]
  have k1 := F.called_set.notType
  have k2 := F.called_set.canCreate
  have k3 := F.typeCall_set_1 (.ref l)
  repeat (any_goals (first | assumption | wp_step))
  refine codeAny_mono (code_set_led1 (.ref l) (E := E) (Q₁ := fun ob t => ob = .ref s.heap.objs.size ∧ t = { s with heap := s.heap.push (oSet w) }) ⟨rfl, rfl⟩) fun r t hr => ?_
  cases r with
  | error e => exact hr
  | ok fl =>
    cases fl with
    | ret ob =>
      obtain ⟨rfl, rfl⟩ := hr
      have g0 : (s.heap.push (oSet w)).get? s.heap.objs.size = some (oSet w) := Heap.get?_push_size _ rfl
      have ty0 : Shared.TypeIs { s with heap := s.heap.push (oSet w) } (.ref s.heap.objs.size) "set" := ⟨_, g0, rfl⟩
      have k4 := F.called_set.init.lookup
      have k5 := F.called_set.init.bind (.ref s.heap.objs.size)
      repeat (any_goals (first | assumption | wp_step))
      refine codeAny_mono (codeAny_call_builtin (R := wants (fun r t => r = .none ∧ ∃ hp tk n, t = { s with heap := hp, toks := tk } ∧ SetR w hp s.heap.objs.size (fun j => decide (j ∈ zs)) n ∧ n ≤ zs.length ∧
          (∀ b o, s.heap.get? b = some o → hp.get? b = some o)) E) F.called_set.init.plain F.entry_set_init (check_set_init_1 ty0 ?_)) fun r2 t2 hr2 => ?_
      · obtain ⟨ol, hol, hcl, nl, hdl⟩ := pl
        obtain ⟨oc, od, oda, osl⟩ := ol
        simp only at hcl hdl
        subst hcl; subst hdl
        have gl : (s.heap.push (oSet w)).get? l = some { cls := .type "list", dict := od, data := .seq its nl, slots := osl } := Heap.get?_push_of_some _ hol
        have k6 := F.sub_list_set
        have k7 := F.sub_list_frozenset
        have k8 : (Value.type "list" == Value.type "dict") = false := by decide
        have pl1 : (s.heap.push (oSet w)).IsList l its := ⟨_, gl, rfl, nl, rfl⟩
        unfold Builtin.«set.__init__» noKeywords Builtin.Frozenset.updateFrom
        generalize ePI : pyIter = PI
        wp_walk
        subst ePI
        refine wpAny_pyIter_list pl1 ?_
        refine wpAny_bind (wpAny_runValue ?_)
        have ls : l < s.heap.objs.size := Heap.lt_size hol
        have hA3 : A.in1.in1.in1.handled = none := by simp [hA]
        have z1 : (s.heap.push (oSet w)).objs.size = s.heap.objs.size + 1 := Heap.size_push ..
        have neI : l ≠ (s.heap.push (oSet w)).objs.size := by
          rw [z1]
          exact Nat.ne_of_lt (Nat.lt_succ_of_lt ls)
        have nfp : s.heap.objs.size ∉ [(s.heap.push (oSet w)).objs.size, l] := by
          rw [z1]
          simp only [List.mem_cons, List.mem_singleton, List.not_mem_nil, or_false, not_or]
          exact And.intro (Nat.ne_of_lt (Nat.lt_succ_self _)) (Nat.ne_of_gt ls)
        have vals : ∀ (i : Nat) (v : Value), its[i]? = some v → ∃ k t, zs[i]? = some k ∧ v = .int k t := fun i v hv => by
          have iz : i < zs.length := by rw [← eN]; exact (Array.getElem?_eq_some_iff.mp hv).1
          obtain ⟨t, e⟩ := PyProof.Rows.IntsAre.int_at hi i v (by rw [Array.getElem?_toList]; exact hv)
          exact ⟨zs[i], t, List.getElem?_eq_getElem iz, by rw [e, List.getD_eq_getElem?_getD, List.getElem?_eq_getElem iz] <;> rfl⟩
        refine set_update_ints ((Walks.list hA3 _ l neI its).toS) s.heap.objs.size nfp zs eN hm vals (its.size - 0) 0 _ (by omega) (Nat.zero_le _) ⟨⟨_, Heap.get?_push_size _ rfl, rfl, rfl⟩, (pl1.push _)⟩ ?start ?done
        case start =>
          have gs : ((s.heap.push (oSet w)).push { cls := .type "list_iterator", data := .fields #[.ref l, .int 0 0] }).get? s.heap.objs.size = some (oSet w) := Heap.get?_push_of_some _ g0
          exact ⟨0, Nat.le_refl 0, setR_new_at gs⟩
        case done =>
          intro t3 n3 mv hn3 hS3
          obtain ⟨hp, ge, dr, tk, os⟩ := t3
          have e1 : ge = s.gens := mv.gens
          have e2 : dr = s.drawn := mv.drawn
          have e3 : os = s.os := mv.os
          subst e1; subst e2; subst e3
          show wpAny _ _ _ _ _ _
          refine wpAny_pure ?_
          show wpAny _ _ (ret Value.none) _ _ _
          rw [eN] at hn3
          refine wpAny_pure ⟨rfl, hp, tk, n3, rfl, hS3, hn3, fun b o e => ?_⟩
          have lb : b < s.heap.objs.size := Heap.lt_size e
          exact mv.heap b o (by
            rw [z1]
            simp only [List.mem_cons, List.mem_singleton, List.not_mem_nil, or_false, not_or]
            exact And.intro (Nat.ne_of_lt lb) (Nat.ne_of_lt (Nat.lt_succ_of_lt lb))) (Heap.get?_push_of_some _ (Heap.get?_push_of_some _ e))
      · cases r2 with
        | error e => exact hr2
        | ok fl2 =>
          cases fl2 with
          | ret v =>
            obtain ⟨rfl, hp, tk, n3, rfl, hS3, hn3, kp⟩ := hr2
            repeat (any_goals (first | assumption | wp_step))
            exact fin _ _ _ hS3 hn3 kp
          | _ => exact hr2.elim
    | _ => exact hr.elim
end
section
variable {X : Cx}
/-- set(xs), xs a list of ints -/
def rSetL (w : World) (K : PySem.W.Frag) : List V → Hp → VK → Prop := fun vs H Q => ∃ (a : Addr) (zs : List Int), vs = [V.ref a] ∧ SqL K H a (zs.map V.int) ∧ zs.length ≤ 1000 ∧
  ∀ p n, H p = none → n ≤ zs.length → Q (.ref p) (upd H p (SetO w p (fun j => decide (j ∈ zs)) n))
theorem cr_setL (hc : X.calm = true) : CallR X (.type "set") (rSetL X.w X.K) := by
  intro pins s σ H vs us Q I r h
  obtain ⟨a, zs, rfl, hq, hz, q⟩ := h
  obtain ⟨its, rv, pl, _⟩ := I.list hq
  rw [Vals.ref1 r]
  have hn : H s.heap.objs.size = none := I.hok.fresh (Nat.le_refl _)
  refine set_of_list zs (I.ok.hd hc) pl.isList rv.ints (by unfold scanBound; omega) fun hp tk n hS hle kp => ?_
  exact ⟨.ref s.heap.objs.size, _, I.laid (t' := tk) kp (Nat.le_refl _) (setO_new hS), rfl, q _ n hn hle⟩
end
end K89
set_option Elab.async false
set_option linter.all false
set_option maxRecDepth 100000
set_option maxHeartbeats 4000000
/-! K89B: built-in functions over the typed layer. -/
namespace K89
open PySem L2
/-- a built-in's reading at typed arguments: a typed result, a new object of ours -/
def Bi (r : List V → Hp → VK → Prop) (ts : List Ty) (t : Ty) : Prop := ∀ F B M H G vs, Hs F B M H G → At ts vs G → ∀ Q : VK, (∀ v H' G', Hs F B M H' G' → Er G G' → t.at_ v G' → Q v H') → r vs H Q
def BiN (r : List V → Hp → VK → Prop) (ts : List Ty) (m : MTy) : Prop := ∀ F B M H G vs, Hs F B M H G → At ts vs G → ∀ Q : VK, (∀ p H' G', Hs F B ((p, m) :: M) H' G' → Er G G' → Q (.ref p) H') → r vs H Q
section
variable {F B : Hp} {Γ : Gam} {M : List Mut1} {ta tb tc te : TE} {tt : TT} {t u : Ty} {ts us : List Ty} {K : PySem.W.Frag} {p : Addr} {m : MTy} {r : List V → Hp → VK → Prop} {tas : TA} {w : World}
theorem e_bi (h : EA tas Γ M ts) (b : Bi r ts t) : E (tCB r tas) Γ M t := fun F B σ H G s g Q q => h F B σ H G s g _ fun vs H1 G1 s1 e1 a1 => b F B M H1 G1 vs s1 a1 Q fun v H2 G2 s2 e2 a2 => q v H2 G2 s2 (e1.trans e2) a2
theorem en_bi (h : EA tas Γ M ts) (b : BiN r ts m) : EN (tCB r tas) Γ M m := fun F B σ H G s g Q q => h F B σ H G s g _ fun vs H1 G1 s1 e1 a1 => b F B M H1 G1 vs s1 a1 Q fun v H2 G2 s2 e2 => q v H2 G2 s2 (e1.trans e2)
theorem e_bi1 (h : E te Γ M t) (b : Bi r [t] u) : E (tCB r (tCons te tNil)) Γ M u := e_bi (ea_cons h ea_nil) b
theorem en_bi1 (h : E te Γ M t) (b : BiN r [t] m) : EN (tCB r (tCons te tNil)) Γ M m := en_bi (ea_cons h ea_nil) b
theorem e_bi2 (h : E ta Γ M t) (k : E tb Γ M t') (b : Bi r [t, t'] u) : E (tCB r (tCons ta (tCons tb tNil))) Γ M u := e_bi (ea_cons h (ea_cons k ea_nil)) b
theorem at1 {vs : List V} {G : Hp} (h : At [t] vs G) : ∃ v, vs = [v] ∧ t.at_ v G := by
  match vs, h with
  | [v], h => exact ⟨v, rfl, h.1⟩
theorem at2 {vs : List V} {G : Hp} (h : At [t, u] vs G) : ∃ v w, vs = [v, w] ∧ t.at_ v G ∧ u.at_ w G := by
  match vs, h with
  | [v, w], h => exact ⟨v, w, rfl, h.1, h.2.1⟩
theorem ints_at {G : Hp} {ns : List Int} {vs : List V} (h : At (ns.map tI) vs G) : vs = ns.map V.int := by
  have e : ns.map tI = (ns.map V.int).map tV := by rw [List.map_map] <;> rfl
  rw [e] at h
  exact at_vs h
theorem nats_map (ns : List Nat) : ns.map tn = (ns.map fun n => ((n : Nat) : Int)).map tI := by
  rw [List.map_map] <;> rfl
theorem nats_at {G : Hp} {ns : List Nat} {vs : List V} (h : At (ns.map tn) vs G) : vs = (ns.map fun n => ((n : Nat) : Int)).map V.int := by
  rw [nats_map] at h
  exact ints_at h
theorem bools_at {G : Hp} {bs : List Bool} {vs : List V} (h : At (bs.map tB) vs G) : vs = bs.map V.bl := by
  have e : bs.map tB = (bs.map V.bl).map tV := by rw [List.map_map] <;> rfl
  rw [e] at h
  exact at_vs h
theorem at_nats {G : Hp} (ns : List Nat) : At (ns.map tn) ((ns.map fun n => ((n : Nat) : Int)).map V.int) G := by
  rw [List.map_map]
  exact At.map (f := tn) (g := V.int ∘ fun n => ((n : Nat) : Int)) fun x _ => rfl
/-- Nat's out of ints -/
theorem ints_nats {zs : List Int} (h : ∀ z ∈ zs, 0 ≤ z) : ∃ ns : List Nat, zs = ns.map fun n => ((n : Nat) : Int) := by
  induction zs with
  | nil => exact ⟨[], rfl⟩
  | cons z zs ih =>
    obtain ⟨ns, e⟩ := ih fun y hy => h y (List.mem_cons_of_mem _ hy)
    have h0 := h z (List.mem_cons_self ..)
    exact ⟨z.toNat :: ns, by rw [e, List.map_cons]; congr 1; omega⟩

theorem bi_len {tup : Bool} : Bi (rLen K) [tSq tup ts] (tn ts.length) := fun F B M H G vs s a Q q => by
  obtain ⟨v, rfl, b, ws, rfl, eb, aw⟩ := at1 a
  refine ⟨_, ts.length, rfl, ?_, q _ H G s (Er.refl G) rfl⟩
  cases tup with
  | true => exact Or.inr ⟨ws, SqT.of (s.er b _ eb), aw.length.symm⟩
  | false => exact Or.inl ⟨ws, SqL.of (s.er b _ eb), aw.length.symm⟩
theorem bi_lenS {z : Str} (hz : z.length ≤ 1000) : Bi (rLen K) [tS z] (tn z.length) := fun F B M H G vs s a Q q => by
  obtain ⟨v, rfl, b⟩ := at1 a
  have b' : v = .str z := b
  subst b'
  exact ⟨_, z.length, rfl, ⟨sz5 (by omega), rfl⟩, q _ H G s (Er.refl G) rfl⟩
theorem bi_lenF {kvs : List (Key × Ty)} : Bi rLenF [tD kvs] (tn kvs.length) := fun F B M H G vs s a Q q => by
  obtain ⟨v, rfl, b, o, ws, rfl, eb, aw⟩ := at1 a
  refine ⟨b, o, ws, rfl, s.er b _ eb, ?_⟩
  rw [aw.length]
  exact q _ H G s (Er.refl G) rfl
theorem bi_all {bs : List Bool} : Bi (rAll K) [tL (bs.map tB)] (tB (bs.all id)) := fun F B M H G vs s a Q q => by
  obtain ⟨v, rfl, b, ws, rfl, eb, aw⟩ := at1 a
  rw [bools_at aw] at eb
  exact ⟨b, bs, rfl, SqL.of (s.er b _ eb), q _ H G s (Er.refl G) rfl⟩
theorem bi_any {bs : List Bool} : Bi (rAny K) [tL (bs.map tB)] (tB (bs.any id)) := fun F B M H G vs s a Q q => by
  obtain ⟨v, rfl, b, ws, rfl, eb, aw⟩ := at1 a
  rw [bools_at aw] at eb
  exact ⟨b, bs, rfl, SqL.of (s.er b _ eb), q _ H G s (Er.refl G) rfl⟩
theorem isum_nat : ∀ ns : List Nat, (ns.map fun n => ((n : Nat) : Int)).sum = ((ns.sum : Nat) : Int)
  | [] => rfl
  | n :: ns => by rw [List.map_cons, List.sum_cons, List.sum_cons, isum_nat ns, Int.natCast_add]
theorem bi_sumT {ns : List Nat} : Bi (rSumT K) [tT (ns.map tn)] (tn ns.sum) := fun F B M H G vs s a Q q => by
  obtain ⟨v, rfl, b, ws, rfl, eb, aw⟩ := at1 a
  rw [nats_at aw] at eb
  exact ⟨b, _, rfl, SqT.of (s.er b _ eb), q _ H G s (Er.refl G) (by rw [isum_nat]; rfl)⟩
theorem bi_max {ns : List Nat} (h : ns ≠ []) : Bi (rMax K) [tL (ns.map tn)] (tEx (fun m => m ∈ ns ∧ ∀ y ∈ ns, y ≤ m) tn) := fun F B M H G vs s a Q q => by
  obtain ⟨v, rfl, b, ws, rfl, eb, aw⟩ := at1 a
  rw [nats_at aw] at eb
  refine ⟨b, _, rfl, SqL.of (s.er b _ eb), ?_, fun m hm hy => ?_⟩
  · rw [List.length_map]
    exact List.length_pos_iff.mpr h
  · obtain ⟨n, hn, rfl⟩ := List.mem_map.mp hm
    refine q _ H G s (Er.refl G) ⟨n, ⟨hn, fun y hy' => ?_⟩, rfl⟩
    have := hy _ (List.mem_map.mpr ⟨y, hy', rfl⟩)
    omega
def rMax2 : List V → Hp → VK → Prop := fun xs H Q => ∃ i j, xs = [.int i, .int j] ∧ Q (.int (if j > i then j else i)) H
theorem call_mx2 {X : Cx} (hc : X.calm = true) : CallR X (.builtin "max") rMax2 := call_max2 hc
def rMin2 : List V → Hp → VK → Prop := fun xs H Q => ∃ i j, xs = [.int i, .int j] ∧ Q (.int (if j < i then j else i)) H
theorem call_mn2 {X : Cx} (hc : X.calm = true) : CallR X (.builtin "min") rMin2 := call_min2 hc
theorem bi_max2 {i j : Int} : Bi rMax2 [tI i, tI j] (tI (if j > i then j else i)) := fun F B M H G vs s a Q q => by
  obtain ⟨v, w, rfl, b, c⟩ := at2 a
  exact ⟨i, j, by rw [show v = .int i from b, show w = .int j from c], q _ H G s (Er.refl G) rfl⟩
theorem bi_min2 {i j : Int} : Bi rMin2 [tI i, tI j] (tI (if j < i then j else i)) := fun F B M H G vs s a Q q => by
  obtain ⟨v, w, rfl, b, c⟩ := at2 a
  exact ⟨i, j, by rw [show v = .int i from b, show w = .int j from c], q _ H G s (Er.refl G) rfl⟩
def rAbs : List V → Hp → VK → Prop := fun xs H Q => ∃ i, xs = [.int i] ∧ Q (.int (if i < 0 then -i else i)) H
theorem call_ab {X : Cx} : CallR X (.builtin "abs") rAbs := call_abs
theorem bi_abs {i : Int} : Bi rAbs [tI i] (tI (if i < 0 then -i else i)) := fun F B M H G vs s a Q q => by
  obtain ⟨v, rfl, b⟩ := at1 a
  exact ⟨i, by rw [show v = .int i from b], q _ H G s (Er.refl G) rfl⟩
def rInt1 : List V → Hp → VK → Prop := fun xs H Q => (∃ i, xs = [.int i] ∧ Q (.int i) H) ∨ ∃ k, xs = [.bl k] ∧ Q (.int (if k then 1 else 0)) H
theorem call_in1 {X : Cx} : CallR X (.type "int") rInt1 := call_int1
theorem bi_int {i : Int} : Bi rInt1 [tI i] (tI i) := fun F B M H G vs s a Q q => by
  obtain ⟨v, rfl, b⟩ := at1 a
  exact Or.inl ⟨i, by rw [show v = .int i from b], q _ H G s (Er.refl G) rfl⟩
/-- a sorted list of Nat's -/
theorem sorted_out {ns : List Nat} {zs : List Int} (hp : zs.Perm (ns.map fun n => ((n : Nat) : Int))) (hs : zs.Pairwise (· ≤ ·)) : ∃ ms : List Nat, zs = (ms.map fun n => ((n : Nat) : Int)) ∧ ms.Perm ns ∧ ms.Pairwise (· ≤ ·) := by
  obtain ⟨ms, e⟩ := ints_nats (zs := zs) fun z hz => by
    obtain ⟨n, _, rfl⟩ := List.mem_map.mp (hp.mem_iff.mp hz)
    omega
  subst e
  refine ⟨ms, rfl, ?_, ?_⟩
  · have h2 := hp.map Int.toNat
    rw [List.map_map, List.map_map] at h2
    have id1 : (Int.toNat ∘ fun n : Nat => (n : Int)) = id := by
      funext n
      simp
    rw [id1, List.map_id, List.map_id] at h2
    exact h2
  · rw [List.pairwise_map] at hs
    exact hs.imp fun h => by omega
theorem bin_sorted {ns : List Nat} : BiN (rSortedI K) [tL (ns.map tn)] (mEx (fun ms : List Nat => ms.Perm ns ∧ ms.Pairwise (· ≤ ·)) fun ms => mL (ms.map tn)) := fun F B M H G vs s a Q q => by
  obtain ⟨v, rfl, b, ws, rfl, eb, aw⟩ := at1 a
  rw [nats_at aw] at eb
  refine ⟨b, _, rfl, SqL.of (s.er b _ eb), fun zs p hp hs hn => ?_⟩
  obtain ⟨ms, rfl, h1, h2⟩ := sorted_out hp hs
  exact q p _ G (s.newM hn ⟨ms, ⟨h1, h2⟩, _, rfl, at_nats ms⟩) (Er.refl G)
def rSortedDI : List V → Hp → VK → Prop := fun xs H Q => ∃ (a : Addr) (kvs : List (Key × V)) (ks : List Int), xs = [.ref a] ∧ Rd H a (.dK kvs) ∧ kvs.map (·.1) = ks.map Sum.inl ∧ ks.length < 64 ∧
  ∀ (ys : List Int) (p : Addr), ys.Perm ks → ys.Pairwise (· ≤ ·) → H p = none → Q (.ref p) (upd H p (.lst (ys.map V.int)))
theorem call_sDI {X : Cx} (hc : X.calm = true) : CallR X (.builtin "sorted") rSortedDI := call_sortedDI hc
abbrev kn (n : Nat) : Key := Sum.inl (n : Int)
theorem bin_sortedD {kvs : List (Key × Ty)} {ns : List Nat} (hk : kvs.map (·.1) = ns.map kn) (hl : ns.length < 64) : BiN rSortedDI [tD kvs] (mEx (fun ms : List Nat => ms.Perm ns ∧ ms.Pairwise (· ≤ ·)) fun ms => mL (ms.map tn)) := fun F B M H G vs s a Q q => by
  obtain ⟨v, rfl, b, o, ws, rfl, eb, aw⟩ := at1 a
  refine ⟨b, ws, ns.map fun n => ((n : Nat) : Int), rfl, .inr ⟨o, s.er b _ eb⟩, ?_, by rw [List.length_map]; exact hl, fun zs p hp hs hn => ?_⟩
  · rw [aw.keys, hk, List.map_map] <;> rfl
  · obtain ⟨ms, rfl, h1, h2⟩ := sorted_out hp hs
    exact q p _ G (s.newM hn ⟨ms, ⟨h1, h2⟩, _, rfl, at_nats ms⟩) (Er.refl G)
/-- .. of a dict of ours -/
theorem en_sortedM {kvs : List (Key × Ty)} {ns : List Nat} (h : E te Γ M (tR p)) (hm : (p, mD kvs) ∈ M) (hk : kvs.map (·.1) = ns.map kn) (hl : ns.length < 64) : EN (tCB rSortedDI (tCons te tNil)) Γ M (mEx (fun ms : List Nat => ms.Perm ns ∧ ms.Pairwise (· ≤ ·)) fun ms => mL (ms.map tn)) := fun F B σ H G s g Q q =>
  h F B σ H G s g _ fun v H1 G1 s1 e1 a1 => by
    have a1' : v = .ref p := a1
    subst a1'
    obtain ⟨_, _, o, h3, ws, h4, aw⟩ := s1.mm p _ hm
    subst h4
    refine ⟨p, ws, ns.map fun n => ((n : Nat) : Int), rfl, .inl h3, ?_, by rw [List.length_map]; exact hl, fun zs p hp hs hn => ?_⟩
    · rw [aw.keys, hk, List.map_map] <;> rfl
    · obtain ⟨ms, rfl, h1, h2⟩ := sorted_out hp hs
      exact q p _ G1 (s1.newM hn ⟨ms, ⟨h1, h2⟩, _, rfl, at_nats ms⟩) e1
/-- sorted(set(xs)) -/
def tSetI (w : World) (ns : List Nat) : Ty := ⟨fun v G => ∃ a n, v = .ref a ∧ n ≤ ns.length ∧ G a = some (SetO w a (fun j => decide (j ∈ ns.map fun n => ((n : Nat) : Int))) n), fun e h => let ⟨a, n, e1, e2, e3⟩ := h; ⟨a, n, e1, e2, e _ _ e3⟩⟩
theorem bi_setL {ns : List Nat} (hl : ns.length ≤ 1000) : Bi (rSetL w K) [tL (ns.map tn)] (tSetI w ns) := fun F B M H G vs s a Q q => by
  obtain ⟨v, rfl, b, ws, rfl, eb, aw⟩ := at1 a
  rw [nats_at aw] at eb
  refine ⟨b, _, rfl, SqL.of (s.er b _ eb), by rw [List.length_map]; exact hl, fun p n hp hn => ?_⟩
  obtain ⟨s2, e2⟩ := s.new (o := SetO w p (fun j => decide (j ∈ ns.map fun n => ((n : Nat) : Int))) n) hp
  rw [List.length_map] at hn
  exact q _ _ _ s2 e2 ⟨p, n, rfl, hn, upd_same⟩
theorem bin_sortedSet {ns : List Nat} (hl : ns.length < 64) : BiN (rSortedSet w) [tSetI w ns] (mEx (fun ms : List Nat => ms.Pairwise (· < ·) ∧ ∀ k, k ∈ ms ↔ k ∈ ns) fun ms => mL (ms.map tn)) := fun F B M H G vs s a Q q => by
  obtain ⟨v, rfl, b, n, rfl, hn, eb⟩ := at1 a
  refine ⟨b, _, n, rfl, s.er b _ eb, by omega, fun zs p hs hm hlen hp => ?_⟩
  obtain ⟨ms, e⟩ := ints_nats (zs := zs) fun z hz => by
    obtain ⟨n, _, rfl⟩ := List.mem_map.mp (of_decide_eq_true ((hm z).mp hz))
    omega
  subst e
  refine q p _ G (s.newM hp ⟨ms, ⟨?_, fun k => ?_⟩, _, rfl, at_nats ms⟩) (Er.refl G)
  · rw [List.pairwise_map] at hs
    exact hs.imp fun h => by omega
  · have h0 := hm ((k : Nat) : Int)
    have mem : ∀ l : List Nat, ((k : Nat) : Int) ∈ (l.map fun n => ((n : Nat) : Int)) ↔ k ∈ l := fun l => by
      constructor
      · intro h
        obtain ⟨n, h1, h2⟩ := List.mem_map.mp h
        have : n = k := by omega
        exact this ▸ h1
      · exact fun h => List.mem_map.mpr ⟨k, h, rfl⟩
    rw [mem, decide_eq_true_iff, mem] at h0
    exact h0
/-- list(xs), tuple(xs) -/
def rListOf (K : PySem.W.Frag) : List V → Hp → VK → Prop := fun xs H Q => ∃ p ys, xs = [.ref p] ∧ (SqL K H p ys ∨ SqT K H p ys) ∧ ∀ l, H l = none → Q (.ref l) (upd H l (.lst ys))
theorem call_lOf {X : Cx} : CallR X (.type "list") (rListOf X.K) := call_list_of
theorem bin_list {tup : Bool} : BiN (rListOf K) [tSq tup ts] (mL ts) := fun F B M H G vs s a Q q => by
  obtain ⟨v, rfl, b, ws, rfl, eb, aw⟩ := at1 a
  refine ⟨b, ws, rfl, ?_, fun p hp => q p _ G (s.newM hp ⟨ws, rfl, aw⟩) (Er.refl G)⟩
  cases tup with
  | true => exact Or.inr (SqT.of (s.er b _ eb))
  | false => exact Or.inl (SqL.of (s.er b _ eb))
def rTupOf (K : PySem.W.Frag) : List V → Hp → VK → Prop := fun xs H Q => ∃ p ys, xs = [.ref p] ∧ ((SqL K H p ys ∧ ∀ l, H l = none → Q (.ref l) (upd H l (.tup ys))) ∨ (SqT K H p ys ∧ Q (.ref p) H))
theorem call_tOf {X : Cx} : CallR X (.type "tuple") (rTupOf X.K) := call_tuple_of
theorem bi_tuple {tup : Bool} : Bi (rTupOf K) [tSq tup ts] (tT ts) := fun F B M H G vs s a Q q => by
  obtain ⟨v, rfl, b, ws, rfl, eb, aw⟩ := at1 a
  refine ⟨b, ws, rfl, ?_⟩
  cases tup with
  | true => exact Or.inr ⟨SqT.of (s.er b _ eb), q _ H G s (Er.refl G) ⟨b, ws, rfl, eb, aw⟩⟩
  | false =>
    refine Or.inl ⟨SqL.of (s.er b _ eb), fun p hp => ?_⟩
    obtain ⟨s2, e2⟩ := s.new (o := .tup ws) hp
    exact q _ _ _ s2 e2 ⟨p, ws, rfl, upd_same, aw.mono e2⟩
/-- tuple(xs), xs a list of ours -/
theorem e_tupleM {j : Nat} (h : E te Γ M (tR p)) (hj : (p, mL ts) ∈ M) : E (tCB (rTupOf K) (tCons te tNil)) Γ M (tT ts) := fun F B σ H G s g Q q =>
  h F B σ H G s g _ fun v H1 G1 s1 e1 a1 => by
    have a1' : v = .ref p := a1
    subst a1'
    obtain ⟨_, _, o, h3, ws, h4, aw⟩ := s1.mm p _ hj
    subst h4
    refine ⟨p, ws, rfl, Or.inl ⟨SqL.of h3, fun q' hp => ?_⟩⟩
    obtain ⟨s2, e2⟩ := s1.new (o := .tup ws) hp
    exact q _ _ _ s2 (e1.trans e2) ⟨q', ws, rfl, upd_same, aw.mono e2⟩
/-- isinstance -/
theorem bi_isi {n T : String} {b : Bool} (hx : ∀ v G H, Er G H → t.at_ v G → TyX K H v (.type T)) (hk : PySem.W.kitOne K (.type T) (.type n) = some b) : Bi (rIsi K) [t, tV (.ty n)] (tB b) := fun F B M H G vs s a Q q => by
  obtain ⟨v, w, rfl, x, c⟩ := at2 a
  have c' : w = .ty n := c
  subst c'
  exact ⟨v, .ty n, .type T, .type n, b, rfl, .ty n, hx v G H s.er x, hk, q _ H G s (Er.refl G) rfl⟩
theorem bi_isiT {n1 n2 T : String} {b : Bool} (hx : ∀ v G H, Er G H → t.at_ v G → TyX K H v (.type T)) (hk : PySem.W.kitAny K (.type T) [.type n1, .type n2] = some b) : Bi (rIsiT K) [t, tT [tV (.ty n1), tV (.ty n2)]] (tB b) := fun F B M H G vs s a Q q => by
  obtain ⟨v, w, rfl, x, a2, ws, rfl, ea, aw⟩ := at2 a
  match ws, aw with
  | [w1, w2], aw =>
    have c1 : w1 = .ty n1 := aw.1
    have c2 : w2 = .ty n2 := aw.2.1
    subst c1 c2
    exact ⟨v, a2, _, .type T, [.type n1, .type n2], b, rfl, s.er _ _ ea, .cons (.ty n1) (.cons (.ty n2) .nil), hx v G H s.er x, hk, q _ H G s (Er.refl G) rfl⟩
theorem ty_int {i : Int} : ∀ v G H, Er G H → (tI i).at_ v G → TyX K H v (.type "int") := fun v G H _ h => by
  have h' : v = .int i := h
  subst h'
  exact .base (.int i)
theorem ty_str {z : Str} : ∀ v G H, Er G H → (tS z).at_ v G → TyX K H v (.type "str") := fun v G H _ h => by
  have h' : v = .str z := h
  subst h'
  exact .base (.str z)
theorem ty_list : ∀ v G H, Er G H → (tL ts).at_ v G → TyX K H v (.type "list") := fun v G H e h => by
  obtain ⟨a, vs, rfl, ea, _⟩ := h
  exact .base (.lst (e _ _ ea))
theorem ty_tup : ∀ v G H, Er G H → (tT ts).at_ v G → TyX K H v (.type "tuple") := fun v G H e h => by
  obtain ⟨a, vs, rfl, ea, _⟩ := h
  exact .base (.tup (e _ _ ea))
theorem ty_dict {kvs : List (Key × Ty)} : ∀ v G H, Er G H → (tD kvs).at_ v G → TyX K H v (.type "dict") := fun v G H e h => by
  obtain ⟨a, o, vs, rfl, ea, _⟩ := h
  exact .fDict (e _ _ ea)
/-- divmod -/
def rDivm : List V → Hp → VK → Prop := fun xs H Q => ∃ i j, xs = [.int i, .int j] ∧ CDivP i j ∧ ∀ p, H p = none → Q (.ref p) (upd H p (.tup [.int (i / j), .int (i % j)]))
theorem call_dvm {X : Cx} : CallR X (.builtin "divmod") rDivm := call_divmodW
theorem bi_divm {i j : Int} (h : CDivP i j) : Bi rDivm [tI i, tI j] (tT [tI (i / j), tI (i % j)]) := fun F B M H G vs s a Q q => by
  obtain ⟨v, w, rfl, b, c⟩ := at2 a
  refine ⟨i, j, by rw [show v = .int i from b, show w = .int j from c], h, fun p hp => ?_⟩
  obtain ⟨s2, e2⟩ := s.new (o := .tup [.int (i / j), .int (i % j)]) hp
  exact q _ _ _ s2 e2 ⟨p, _, rfl, upd_same, rfl, rfl, trivial⟩
/-- list(d.items()) of a frozen dict -/
theorem pairs_at {H' G' : Hp} {kvs : List (Key × Ty)} {vs : List (Key × V)} {ls : List Addr} (hp : Paired (fun (t : Addr) (q : Key × V) => H' t = some (.tup [kV q.1, q.2])) ls vs) (hg : ∀ t ∈ ls, G' t = H' t) (av : AtD kvs vs G') :
    At (kvs.map fun e => tT [tV (kV e.1), e.2]) (ls.map V.ref) G' := by
  induction hp generalizing kvs with
  | nil =>
    cases kvs with
    | nil => exact trivial
    | cons _ _ => exact av.elim
  | @cons a b l1 l2 h t ih =>
    cases kvs with
    | nil => exact av.elim
    | cons k kvs =>
      refine ⟨⟨a, [kV b.1, b.2], rfl, ?_, ?_, av.2.1, trivial⟩, ih (fun t ht => hg t (List.mem_cons_of_mem _ ht)) av.2.2⟩
      · rw [hg a (List.mem_cons_self ..)]
        exact h
      · show kV b.1 = kV k.1
        rw [av.1]
theorem e_itemsF {td : TE} {kvs : List (Key × Ty)} (h : E td Γ M (tD kvs)) : E (tItemsF td) Γ M (tL (kvs.map fun e => tT [tV (kV e.1), e.2])) := fun F B σ H G s g Q q => h F B σ H G s g _ fun v H1 G1 s1 e1 a1 => by
  obtain ⟨d, o, vs, rfl, ed, av⟩ := a1
  refine ⟨d, o, vs, rfl, s1.er d _ ed, fun H' p ls keep hp hls np hpl pr => ?_⟩
  have new : ∀ a, a = p ∨ a ∈ ls → H1 a = none := fun a ha => by
    rcases ha with ha | ha
    · rw [ha]
      exact hp
    · exact hls a ha
  have e2 : Er G1 (fun a => if a = p ∨ a ∈ ls then H' a else G1 a) := fun a z hz => by
    have hn : ¬ (a = p ∨ a ∈ ls) := fun ha => by
      have := s1.er a z hz
      rw [new a ha] at this
      cases this
    show (if a = p ∨ a ∈ ls then H' a else G1 a) = some z
    rw [if_neg hn]
    exact hz
  have e3 : Er (fun a => if a = p ∨ a ∈ ls then H' a else G1 a) H' := fun a z hz => by
    have hz' : (if a = p ∨ a ∈ ls then H' a else G1 a) = some z := hz
    by_cases hn : a = p ∨ a ∈ ls
    · rw [if_pos hn] at hz'
      exact hz'
    · rw [if_neg hn] at hz'
      exact keep a z (s1.er a z hz')
  refine q _ H' _ (s1.frm e2 e3 fun a z h1 h2 => ⟨keep a z h2, ?_⟩) (e1.trans e2) ⟨p, _, rfl, ?_, pairs_at pr (fun t ht => ?_) (av.mono e2)⟩
  · show (if a = p ∨ a ∈ ls then H' a else G1 a) = none
    rw [if_neg fun ha => by rw [new a ha] at h2; cases h2]
    exact h1
  · show (if p = p ∨ p ∈ ls then H' p else G1 p) = _
    rw [if_pos (.inl rfl)]
    exact hpl
  · show (if t = p ∨ t ∈ ls then H' t else G1 t) = _
    rw [if_pos (.inr ht)]
/-- dict(pairs) -/
def rDictP (K : PySem.W.Frag) : List V → Hp → VK → Prop := fun xs H Q => ∃ (a : Addr) (ps : List Addr) (kvs : List (Key × V)), xs = [.ref a] ∧ SqL K H a (ps.map V.ref) ∧ Paired (fun p kv => SqT K H p [kV kv.1, kv.2]) ps kvs ∧
  ∀ p, H p = none → Q (.ref p) (upd H p (.dK (mergeK [] kvs)))
theorem call_dcP {X : Cx} (hc : X.calm = true) : CallR X (.type "dict") (rDictP X.K) := call_dictP hc
/-- what merging comes to, by types -/
def mergeT (as : List (Key × Ty)) : List (Key × Ty) → List (Key × Ty)
  | [] => as
  | b :: bs => mergeT (dPut b.1 b.2 as) bs
theorem atD_over {κ : Type} [DecidableEq κ] {G : Hp} {k : κ} {v : V} (a : t.at_ v G) : ∀ {as : List (κ × Ty)} {vs : List (κ × V)}, (as.map (·.1)).Nodup → AtD as vs G → dLook k as ≠ none →
    AtD (dPut k t as) (vs.map fun kv => if kv.1 = k then (kv.1, v) else kv) G
  | [], [], _, _, h => absurd rfl h
  | b :: as, c :: vs, nd, h, hk => by
    have hc : c.1 = b.1 := h.1
    unfold dPut
    rw [List.map_cons]
    by_cases z : b.1 = k
    · rw [if_pos z, if_pos (hc.trans z)]
      refine ⟨hc.trans z, a, ?_⟩
      have no : ∀ q ∈ vs, q.1 ≠ k := fun q hq e => by
        have m1 : q.1 ∈ vs.map (·.1) := List.mem_map.mpr ⟨q, hq, rfl⟩
        rw [AtD.keys h.2.2, e, ← z] at m1
        exact (List.nodup_cons.mp nd).1 m1
      have e : (vs.map fun kv => if kv.1 = k then (kv.1, v) else kv) = vs := by
        conv => rhs; rw [← List.map_id vs]
        exact List.map_congr_left fun q hq => if_neg (no q hq)
      rw [e]
      exact h.2.2
    · rw [if_neg z, if_neg (fun e => z (hc.symm.trans e))]
      unfold dLook at hk
      rw [if_neg z] at hk
      exact ⟨hc, h.2.1, atD_over a (List.nodup_cons.mp nd).2 h.2.2 hk⟩
  | [], _ :: _, _, h, _ => h.elim
  | _ :: _, [], _, h, _ => h.elim
theorem dPut_new {κ : Type} [DecidableEq κ] {k : κ} : ∀ {as : List (κ × Ty)}, dLook k as = none → dPut k t as = as ++ [(k, t)]
  | [], _ => rfl
  | b :: as, e => by
    unfold dLook at e
    unfold dPut
    by_cases z : b.1 = k
    · rw [if_pos z] at e
      cases e
    · rw [if_neg z] at e ⊢
      rw [dPut_new e] <;> rfl
theorem dPut_keys {κ : Type} [DecidableEq κ] {k : κ} : ∀ {as : List (κ × Ty)}, (dPut k t as).map (·.1) = if dLook k as = none then as.map (·.1) ++ [k] else as.map (·.1)
  | [] => rfl
  | b :: as => by
    unfold dLook dPut
    by_cases z : b.1 = k
    · rw [if_pos z, if_pos z, if_neg (by simp), List.map_cons, List.map_cons, z]
    · rw [if_neg z, if_neg z, List.map_cons, dPut_keys, List.map_cons]
      by_cases q : dLook k as = none
      · rw [if_pos q, if_pos q, List.cons_append]
      · rw [if_neg q, if_neg q]
theorem dLook_no {κ : Type} [DecidableEq κ] {k : κ} : ∀ {as : List (κ × Ty)}, dLook k as = none ↔ k ∉ as.map (·.1)
  | [] => by simp [dLook]
  | b :: as => by
    unfold dLook
    by_cases z : b.1 = k
    · rw [if_pos z]
      simp [z]
    · rw [if_neg z, dLook_no (as := as), List.map_cons, List.mem_cons, not_or]
      exact ⟨fun h => ⟨fun e => z e.symm, h⟩, fun h => h.2⟩
theorem dPut_nodup {κ : Type} [DecidableEq κ] {k : κ} {as : List (κ × Ty)} (h : (as.map (·.1)).Nodup) : ((dPut k t as).map (·.1)).Nodup := by
  rw [dPut_keys]
  by_cases q : dLook k as = none
  · rw [if_pos q]
    refine List.nodup_append.mpr ⟨h, by simp, fun a ha b hb e => ?_⟩
    have hb' : b = k := by simpa using hb
    exact (dLook_no.mp q) (by rw [← hb', ← e]; exact ha)
  · rw [if_neg q]
    exact h
theorem atD_put {κ : Type} [DecidableEq κ] {G : Hp} {k : κ} {v : V} {as : List (κ × Ty)} {vs : List (κ × V)} (a : t.at_ v G) (nd : (as.map (·.1)).Nodup) (h : AtD as vs G) : AtD (dPut k t as) (putK vs k v) G := by
  rcases atD_look (k := k) h with ⟨e, ev⟩ | ⟨t', v', e, ev, _⟩
  · rw [putK_new v ev, dPut_new e]
    exact atD_append rfl a h
  · have hany : (vs.any fun kv => decide (kv.1 = k)) = true := by
      rw [valV_any, ev] <;> rfl
    unfold putK
    rw [if_pos hany]
    exact atD_over a nd h (by rw [e]; exact fun z => nomatch z)
theorem merge_at {G : Hp} : ∀ {bs : List (Key × Ty)} {ws : List (Key × V)} {as : List (Key × Ty)} {vs : List (Key × V)}, (as.map (·.1)).Nodup → AtD as vs G → AtD bs ws G → AtD (mergeT as bs) (mergeK vs ws) G
  | [], [], _, _, _, h, _ => h
  | b :: bs, w :: ws, as, vs, nd, h, k => by
    have kw : w.1 = b.1 := k.1
    have h1 := atD_put (k := b.1) k.2.1 nd h
    have h2 := merge_at (bs := bs) (ws := ws) (as := dPut b.1 b.2 as) (dPut_nodup nd) h1 k.2.2
    rw [← kw] at h2
    have e1 : mergeT as (b :: bs) = mergeT (dPut w.1 b.2 as) bs := by rw [kw] <;> rfl
    rw [e1]
    exact h2
  | [], _ :: _, _, _, _, _, k => k.elim
  | _ :: _, [], _, _, _, _, k => k.elim
theorem refs_pairs {G : Hp} : ∀ {bs : List (Key × Ty)} {vs : List V}, At (bs.map fun e => tT [tV (kV e.1), e.2]) vs G → ∃ (ps : List Addr) (ws : List (Key × V)), vs = ps.map V.ref ∧ AtD bs ws G ∧ Paired (fun (p : Addr) (kv : Key × V) => G p = some (.tup [kV kv.1, kv.2])) ps ws
  | [], [], _ => ⟨[], [], rfl, trivial, .nil⟩
  | b :: bs, v :: vs, h => by
    obtain ⟨⟨a, xs, rfl, ea, ax⟩, h2⟩ := h
    obtain ⟨x, y, rfl, hx, hy⟩ := at2 ax
    obtain ⟨ps, ws, rfl, k1, k2⟩ := refs_pairs h2
    have hx' : x = kV b.1 := hx
    subst hx'
    exact ⟨a :: ps, (b.1, y) :: ws, rfl, ⟨rfl, hy, k1⟩, .cons ea k2⟩
  | [], _ :: _, h => h.elim
  | _ :: _, [], h => h.elim
theorem bin_dict {bs : List (Key × Ty)} : BiN (rDictP K) [tL (bs.map fun e => tT [tV (kV e.1), e.2])] (mD (mergeT [] bs)) := fun F B M H G vs s a Q q => by
  obtain ⟨v, rfl, b, ws, rfl, eb, aw⟩ := at1 a
  obtain ⟨ps, kvs, rfl, h1, h2⟩ := refs_pairs aw
  exact ⟨b, ps, kvs, rfl, SqL.of (s.er b _ eb), L2.Paired.mapP h2 fun p kv e => SqT.of (s.er p _ e), fun p hp => q p _ G (s.newM hp ⟨_, rfl, merge_at List.nodup_nil trivial h1⟩) (Er.refl G)⟩
/-- sorted(set(..)) of pairs of Nat's -/
def tPr (x : Nat × Nat) : Ty := tT [tn x.1, tn x.2]
def tSetP (P : Program) (w : World) (xs : List (Nat × Nat)) : Ty := ⟨fun v G => ∃ a L, v = .ref a ∧ G a = some (SetTO P w a L) ∧ (∀ p ∈ L, ∃ x ∈ xs, p.2 = [(x.1 : Int), (x.2 : Int)] ∧ G p.1 = some (.tup (p.2.map V.int))) ∧ ∀ x ∈ xs, [(x.1 : Int), (x.2 : Int)] ∈ L.map (·.2),
  fun e h => let ⟨a, L, e1, e2, e3, e4⟩ := h; ⟨a, L, e1, e _ _ e2, fun p hp => let ⟨x, x1, x2, x3⟩ := e3 p hp; ⟨x, x1, x2, e _ _ x3⟩, e4⟩⟩
theorem prs_at {G : Hp} : ∀ {xs : List (Nat × Nat)} {vs : List V}, At (xs.map tPr) vs G → ∃ ps : List Addr, vs = ps.map V.ref ∧ Paired (fun (p : Addr) (x : Nat × Nat) => G p = some (.tup [V.int x.1, V.int x.2])) ps xs
  | [], [], _ => ⟨[], rfl, .nil⟩
  | x :: xs, v :: vs, h => by
    obtain ⟨⟨a, ys, rfl, ea, ay⟩, h2⟩ := h
    obtain ⟨y, z, rfl, hy, hz⟩ := at2 ay
    obtain ⟨ps, rfl, k⟩ := prs_at h2
    have hy' : y = .int (x.1 : Int) := hy
    have hz' : z = .int (x.2 : Int) := hz
    subst hy' hz'
    exact ⟨a :: ps, rfl, .cons ea k⟩
  | [], _ :: _, h => h.elim
  | _ :: _, [], h => h.elim
theorem zip_paired {α β : Type} {R : α → β → Prop} : ∀ {ps : List α} {xs : List β}, Paired R ps xs → (ps.zip xs).map (·.1) = ps ∧ (ps.zip xs).map (·.2) = xs ∧ ∀ z ∈ ps.zip xs, R z.1 z.2
  | _, _, .nil => ⟨rfl, rfl, fun _ h => nomatch h⟩
  | _, _, .cons h t => by
    obtain ⟨h1, h2, h3⟩ := zip_paired t
    refine ⟨by rw [List.zip_cons_cons, List.map_cons, h1], by rw [List.zip_cons_cons, List.map_cons, h2], fun z hz => ?_⟩
    rw [List.zip_cons_cons] at hz
    rcases List.mem_cons.mp hz with e | e
    · rw [e]
      exact h
    · exact h3 z e
theorem bi_setP {P : Program} {xs : List (Nat × Nat)} (hl : xs.length < 64) : Bi (rSetOfT K P w) [tL (xs.map tPr)] (tSetP P w xs) := fun F B M H G vs s a Q q => by
  obtain ⟨v, rfl, b, ws, rfl, eb, aw⟩ := at1 a
  obtain ⟨ps, rfl, hp⟩ := prs_at aw
  obtain ⟨z1, z2, z3⟩ := zip_paired hp
  refine ⟨b, (ps.zip xs).map fun z => (z.1, [(z.2.1 : Int), (z.2.2 : Int)]), rfl, ?_, fun p hp' => ?_, ?_, fun p L hp' h1 h2 => ?_⟩
  · rw [List.map_map]
    have e : (ps.zip xs).map ((fun p : Addr × List Int => V.ref p.1) ∘ fun z => (z.1, [(z.2.1 : Int), (z.2.2 : Int)])) = ps.map V.ref := by
      conv => rhs; rw [← z1, List.map_map]
      rfl
    rw [e]
    exact SqL.of (s.er b _ eb)
  · obtain ⟨z, hz, rfl⟩ := List.mem_map.mp hp'
    exact SqT.of (s.er _ _ (z3 z hz))
  · rw [List.length_map]
    have : (ps.zip xs).length = xs.length := by
      conv => rhs; rw [← z2, List.length_map]
    omega
  · obtain ⟨s2, e2⟩ := s.new (o := SetTO P w p L) hp'
    refine q _ _ _ s2 e2 ⟨p, L, rfl, upd_same, fun y hy => ?_, fun x hx => ?_⟩
    · obtain ⟨z, hz, rfl⟩ := List.mem_map.mp (h1 y hy)
      refine ⟨z.2, ?_, rfl, e2 _ _ (z3 z hz)⟩
      rw [← z2]
      exact List.mem_map.mpr ⟨z, hz, rfl⟩
    · rw [← z2] at hx
      obtain ⟨z, hz, rfl⟩ := List.mem_map.mp hx
      exact h2 (z.1, [(z.2.1 : Int), (z.2.2 : Int)]) (List.mem_map.mpr ⟨z, hz, rfl⟩)
theorem prs_of {G : Hp} {xs : List (Nat × Nat)} : ∀ {L : List (Addr × List Int)}, (∀ p ∈ L, ∃ x ∈ xs, p.2 = [(x.1 : Int), (x.2 : Int)] ∧ G p.1 = some (.tup (p.2.map V.int))) →
    ∃ ys : List (Nat × Nat), L.map (·.2) = ys.map (fun x => [(x.1 : Int), (x.2 : Int)]) ∧ (∀ y ∈ ys, y ∈ xs) ∧ At (ys.map tPr) (L.map fun q => V.ref q.1) G
  | [], _ => ⟨[], rfl, (fun y hy => by simp at hy), trivial⟩
  | p :: L, h => by
    obtain ⟨ys, h1, h2, h3⟩ := prs_of (L := L) fun q hq => h q (List.mem_cons_of_mem _ hq)
    obtain ⟨x, hx, e1, e2⟩ := h p (List.mem_cons_self ..)
    refine ⟨x :: ys, by rw [List.map_cons, List.map_cons, h1, e1], fun y hy => ?_, ⟨p.1, _, rfl, e2, ?_⟩, h3⟩
    · rcases List.mem_cons.mp hy with z | z
      · rw [z]
        exact hx
      · exact h2 y z
    · rw [e1]
      exact ⟨rfl, rfl, trivial⟩
theorem bin_sortedP {P : Program} {xs : List (Nat × Nat)} (hb : ∀ x ∈ xs, x.1 < 100000 ∧ x.2 < 100000) : BiN (rSortedT K P w) [tSetP P w xs] (mEx (fun ys : List (Nat × Nat) => ∀ x, x ∈ ys ↔ x ∈ xs) fun ys => mL (ys.map tPr)) := fun F B M H G vs s a Q q => by
  obtain ⟨v, rfl, b, L, rfl, eb, h1, h2⟩ := at1 a
  refine ⟨b, L, 2, 100000, rfl, s.er b _ eb, fun p hp => ?_, by decide, fun p hp => ?_, fun L' p pm _ _ _ hp => ?_⟩
  · obtain ⟨x, _, _, e⟩ := h1 p hp
    exact SqT.of (s.er _ _ e)
  · obtain ⟨x, hx, e, _⟩ := h1 p hp
    have := hb x hx
    rw [e]
    refine ⟨rfl, fun m hm => ?_⟩
    simp only [List.mem_cons, List.not_mem_nil, or_false] at hm
    rcases hm with hm | hm <;> omega
  · obtain ⟨ys, k1, k2, k3⟩ := prs_of (L := L') (xs := xs) (G := G) fun z hz => h1 z (pm.mem_iff.mp hz)
    refine q p _ G (s.newM hp ⟨ys, fun x => ⟨k2 x, fun hx => ?_⟩, _, rfl, k3⟩) (Er.refl G)
    have m1 := h2 x hx
    have m2 : [(x.1 : Int), (x.2 : Int)] ∈ L'.map (·.2) := (pm.map (·.2)).mem_iff.mpr m1
    rw [k1] at m2
    obtain ⟨y, hy, e⟩ := List.mem_map.mp m2
    have e1 : y = x := by
      simp only [List.cons.injEq, and_true] at e
      obtain ⟨a1, a2⟩ := e
      exact Prod.ext (by omega) (by omega)
    exact e1 ▸ hy
end
end K89
set_option Elab.async false
set_option linter.all false
set_option maxRecDepth 100000
set_option maxHeartbeats 4000000
/-! K89F: the world of the text's defs (En), a def with its promise (Cal), calls. -/
namespace K89
open PySem PySem.Spec PyProof.Rows L2

/-- what the top has left -/
structure En (K : PySem.W.Frag) (mg : Str → Option Value) : Prop where
  ex : ∃ h : Heap, K.In h ∧ h.Ns mainGlobals mg
  says : SaysP K
section
variable {K : PySem.W.Frag} {mg : Str → Option Value}
theorem En.saysD (T : En K mg) : He.SaysD fa fn K := congrArg (fun z : AlP => z.1) T.says
theorem En.sysM (T : En K mg) : ∃ o : Obj, K.lookup sysModules = some o ∧ o.cls = .type "dict" := by
  have h : propB K = true := congrArg (fun z : AlP => z.2.1) T.says
  have h2 : sysB K = true := (He.ba (He.ba h).1).1
  unfold sysB at h2
  split at h2
  · rename_i d x o e
    exact ⟨_, e, rfl⟩
  · cases h2
theorem En.glo (T : En K mg) (i : Nat) {x : Str} (h : fa[i]? = some (.glo x) := by rfl) : mg x = some (.ref (He.ga K x)) := by
  obtain ⟨hp, X, G⟩ := T.ex
  exact He.glo_ok X G (T.saysD.fact i h)
theorem En.free (T : En K mg) (i : Nat) {x : Str} (h : fa[i]? = some (.free x) := by rfl) : mg x = none := by
  obtain ⟨hp, X, G⟩ := T.ex
  exact He.free_ok X G (T.saysD.fact i h)
theorem En.str (T : En K mg) (i : Nat) {x z : Str} (h : fa[i]? = some (.str x z) := by rfl) : ∃ t, mg x = some (.str z t) := by
  obtain ⟨hp, X, G⟩ := T.ex
  exact He.str_ok X G (T.saysD.fact i h)
theorem En.int (T : En K mg) (i : Nat) {x : Str} {n : Int} (h : fa[i]? = some (.int x n) := by rfl) : ∃ t, mg x = some (.int n t) := by
  obtain ⟨hp, X, G⟩ := T.ex
  exact He.int_ok X G (T.saysD.fact i h)
theorem En.isinstance (T : En K mg) : mg "isinstance" = none := T.free 49
theorem En.int_ (T : En K mg) : mg "int" = none := T.free 50
theorem En.bool (T : En K mg) : mg "bool" = none := T.free 51
theorem En.str_ (T : En K mg) : mg "str" = none := T.free 52
theorem En.dict (T : En K mg) : mg "dict" = none := T.free 53
theorem En.list (T : En K mg) : mg "list" = none := T.free 54
theorem En.tuple (T : En K mg) : mg "tuple" = none := T.free 55
theorem En.len (T : En K mg) : mg "len" = none := T.free 56
theorem En.all (T : En K mg) : mg "all" = none := T.free 57
theorem En.any (T : En K mg) : mg "any" = none := T.free 58
theorem En.enumerate (T : En K mg) : mg "enumerate" = none := T.free 59
theorem En.sorted (T : En K mg) : mg "sorted" = none := T.free 60
theorem En.set (T : En K mg) : mg "set" = none := T.free 61
theorem En.range (T : En K mg) : mg "range" = none := T.free 62
theorem En.sum (T : En K mg) : mg "sum" = none := T.free 63
theorem En.max (T : En K mg) : mg "max" = none := T.free 64
theorem En.min (T : En K mg) : mg "min" = none := T.free 65
theorem En.zip (T : En K mg) : mg "zip" = none := T.free 66
theorem En.repr (T : En K mg) : mg "repr" = none := T.free 67
theorem En.abs (T : En K mg) : mg "abs" = none := T.free 68
theorem En.divmod (T : En K mg) : mg "divmod" = none := T.free 69
theorem En.DO (T : En K mg) : ∃ t, mg "DO" = some (.str "do" t) := T.str 70
theorem En.SAY (T : En K mg) : ∃ t, mg "SAY" = some (.str "say" t) := T.str 71
theorem En.HEAR (T : En K mg) : ∃ t, mg "HEAR" = some (.str "hear" t) := T.str 72
theorem En.SIGNS (T : En K mg) : ∃ t, mg "SIGNS" = some (.str "abcdefghijklmnopqrstuvwxyz0123456789" t) := T.str 73
theorem En.MOST_SIGNS (T : En K mg) : ∃ t, mg "MOST_SIGNS" = some (.int 8 t) := T.int 74
theorem En.MOST_HOUSES (T : En K mg) : ∃ t, mg "MOST_HOUSES" = some (.int 6 t) := T.int 75
theorem En.MOST_EVENTS (T : En K mg) : ∃ t, mg "MOST_EVENTS" = some (.int 120 t) := T.int 76
abbrev cP (K : PySem.W.Frag) : Addr := He.ga K "Picture"
theorem En.cls (T : En K mg) : Cls K (cP K) := He.cls_ok (T.saysD.fact 77 (f := .cls "Picture") rfl)
theorem En.noat (T : En K mg) (i : Nat) {f : Str} (h : fa[i]? = some (.noat "Picture" f) := by rfl) : NoAttr K (cP K) f := He.noat_ok (T.saysD.fact i h)
theorem En.own_rows (T : En K mg) : NoAttr K (cP K) "own_rows" := T.noat 78
theorem En.sizes (T : En K mg) : NoAttr K (cP K) "sizes" := T.noat 79
theorem En.sayings (T : En K mg) : NoAttr K (cP K) "sayings" := T.noat 80
theorem En.hearings (T : En K mg) : NoAttr K (cP K) "hearings" := T.noat 81
theorem En.clocks (T : En K mg) : NoAttr K (cP K) "clocks" := T.noat 82
theorem En.meth (T : En K mg) (i : Nat) {m : Str} (h : fa[i]? = some (.meth "Picture" m) := by rfl) : Meth K (cP K) m (He.ma K (cP K) m) := He.meth_ok (T.saysD.fact i h)
theorem En.mkr (T : En K mg) : Mk K (cP K) (He.ma K (cP K) "__init__") := He.mkr_ok (T.saysD.fact 88 (f := .mkr "Picture") rfl)
theorem En.gloP (T : En K mg) : mg "Picture" = some (.ref (cP K)) := T.glo 48
theorem En.defD (T : En K mg) (i : Nat) {d : He.DefD} (h : fn[i]? = some d := by rfl) : ∃ fd, FunD K d.name d.qual d.params d.body d.scope (d.dvs K) (d.kws K) (He.fAd K d.at_) fd := T.saysD.def_ i h
end

/-! ### names of the top as values -/
section
variable {X : Cx}
theorem pe_gstr {x z : Str} {pos : Pos} (hm : ∃ t, X.mg x = some (.str z t)) (hg : Gl X x) (hd : (x == ("__debug__" : Str)) = false := by decide) : PE X (.Name x pos) (tC (.str z)) := by
  obtain ⟨t, h⟩ := hm
  exact pe_glob hg h ⟨t, rfl⟩ hd
theorem pe_gint {x : Str} {n : Int} {pos : Pos} (hm : ∃ t, X.mg x = some (.int n t)) (hg : Gl X x) (hd : (x == ("__debug__" : Str)) = false := by decide) : PE X (.Name x pos) (tC (.int n)) := by
  obtain ⟨t, h⟩ := hm
  exact pe_glob hg h ⟨t, rfl⟩ hd
theorem pe_ty {x : Str} {n : String} {pos : Pos} (hm : X.mg x = none) (hg : Gl X x) (hv : bootBuiltins x = some (.type n)) (hn : x ≠ "__name__" := by decide) (hd : (x == ("__debug__" : Str)) = false := by decide) : PE X (.Name x pos) (tC (.ty n)) :=
  pe_bltn hg hm hv rfl hn hd
end

/-! ### a def with its promise -/
/-- the function's object is the fragment's -/
def InK (K : PySem.W.Frag) (f : Addr) (fd : FuncData) : Prop := ∃ (oc : Value) (od : Option Addr) (osl : Array (Option Value)), K.lookup f = some ⟨oc, od, .func fd, osl⟩
theorem inK_of {K : PySem.W.Frag} {x qual : Str} {params : Arguments} {body : List Stmt} {scope : Scope} {dvs : List V} {kws : List (Str × V)} {f : Addr} {fd : FuncData} (F : FunD K x qual params body scope dvs kws f fd) : InK K f fd := by
  obtain ⟨oc, od, _, _, _, _, _, _, _, osl, _, h, _⟩ := F.ex
  exact ⟨oc, od, osl, h⟩
structure Cal (P : Program) (w : World) (K : PySem.W.Frag) (mg : Str → Option Value) (x : Str) (k : Nat) (ps : List Str) (sp : Sp) : Prop where
  ex : ∃ (f : Addr) (fd : FuncData), mg x = some (.ref f) ∧ PySem.W.keepIn K (.ref f) = true ∧ (Binds K fd ps [] ∧ InK K f fd) ∧ ∀ base : Heap, FnOk P w K mg base CX0 k f fd ps sp
/-- a method -/
structure CalM (P : Program) (w : World) (K : PySem.W.Frag) (mg : Str → Option Value) (f : Addr) (k : Nat) (ps : List Str) (sp : Sp) : Prop where
  ex : ∃ fd : FuncData, Binds K fd ps [] ∧ ∀ base : Heap, FnOk P w K mg base CX0 k f fd ps sp
section
variable {X : Cx} {k : Nat} {ps : List Str} {sp : Sp} {x : Str} {p pos apos : Pos} {e o : Expr} {es : List Expr} {t : TA} {ta : TE} {C : Addr} {m : Str}
theorem pe_f (c : Cal X.prog X.w X.K X.mg x k ps sp) (hr : Room k X.A) (hg : Gl X x) (ha : PA X (e :: es) t) (hdb : (x == ("__debug__" : Str)) = false := by decide)
    (he : starEach (e :: es) X.env = (false, eval e X.env) :: starEach es X.env := by rfl) (hpl : (backTo pos (starEach es X.env)).any (·.1) = false := by rfl) : PE X (.Call (.Name x p) (e :: es) [] pos) (tCall sp [] E0 t) := by
  obtain ⟨f, fd, h1, h2, h3, h4⟩ := c.ex
  exact pe_call (h4 X.base) hr hg h1 h2 h3.1 .nil pass0 ha hdb he hpl
theorem pe_m {pl : Sem Bool} (hc : Cls X.K C) (hm : Meth X.K C m (He.ma X.K C m)) (c : CalM X.prog X.w X.K X.mg (He.ma X.K C m) k ps sp) (hr : Room k X.A) (he : PE X o ta) (ha : PA X (e :: es) t)
    (hst : starEach (e :: es) X.env = (false, eval e X.env) :: starEach es X.env := by rfl) (hpl : (backTo pos (starEach es X.env)).any (·.1) = false := by rfl)
    (ht : eval (.Call (.Attribute o m apos) (e :: es) [] pos) X.env = (do
      let ov ← eval o X.env
      standAt apos.atName
      let (f, first) ← holding [ov] (getMethod ov m pl)
      callWith pos f first (backTo pos (starEach (e :: es) X.env)) (backToKw pos (keywordEach [] X.env))) := by rfl) : PE X (.Call (.Attribute o m apos) (e :: es) [] pos) (tMeth C m sp [] E0 ta t) := by
  obtain ⟨fd, h3, h4⟩ := c.ex
  exact pe_meth he hc hm (h4 X.base) hr h3 .nil pass0 ha hst hpl ht
theorem pe_m0 {pl : Sem Bool} (hc : Cls X.K C) (hm : Meth X.K C m (He.ma X.K C m)) (c : CalM X.prog X.w X.K X.mg (He.ma X.K C m) k ps sp) (hr : Room k X.A) (he : PE X o ta)
    (ht : eval (.Call (.Attribute o m apos) [] [] pos) X.env = (do
      let ov ← eval o X.env
      standAt apos.atName
      let (f, first) ← holding [ov] (getMethod ov m pl)
      callWith pos f first (backTo pos (starEach [] X.env)) (backToKw pos (keywordEach [] X.env))) := by rfl) : PE X (.Call (.Attribute o m apos) [] [] pos) (tMeth C m sp [] E0 ta tNil) := by
  obtain ⟨fd, h3, h4⟩ := c.ex
  exact pe_meth0 he hc hm (h4 X.base) hr h3 .nil pass0 ht
/-- the property, read -/
structure CalG (P : Program) (w : World) (K : PySem.W.Frag) (mg : Str → Option Value) (k : Nat) (sp : Sp) : Prop where
  ex : ∃ (p g : Addr) (fd : FuncData), PropOf K (cP K) "houses" p g ∧ Binds K fd ["self"] [] ∧ ∀ base : Heap, FnOk P w K mg base CX0 k g fd ["self"] sp
theorem pe_g {e : Expr} (hc : Cls X.K (cP X.K)) (c : CalG X.prog X.w X.K X.mg k sp) (hr : Room (k + 1) X.A) (he : PE X e ta) (hab : attributeBase e "houses" X.env (eval e X.env) = eval e X.env) : PE X (.Attribute e "houses" pos) (tProp (cP X.K) sp [] E0 ta) := by
  obtain ⟨p, g, fd, h1, h2, h3⟩ := c.ex
  exact pe_prop he hc h1 (h3 X.base) hr h2 .nil pass0 hab
end

/-! ### a def's entry -/
/-- how its body goes: from typed arguments to a typed result -/
def Body {α : Type} (t : TS) (n : Nat) (as : α → List Ty) (r : α → Ty) : Prop := ∀ (x : α) (F B : Hp) (Q : VK), Ret F B (r x) Q → N (t { nx := fun _ H' => Q .non H', rt := Q }) F B ((as x).map some ++ List.replicate n none) []
theorem Hs.enter {H G : Hp} (e : Er G H) : Hs (K89.frm G H) G [] H G := ⟨e, Er.refl G, fun _ _ h => (of_frm h).symm, fun _ _ h => (nomatch h), List.nodup_nil⟩
theorem body_run {α : Type} {t : TS} {n : Nat} {as : α → List Ty} {r : α → Ty} (b : Body t n as r) {N ps : List Str} {vs : List V} {H : Hp} {Q : VK} {E : XK} (hN : N.length = ps.length + n) (hl : ∀ x, (as x).length = ps.length) (h : spT as r vs H Q E) : t { nx := fun _ H' => Q .non H', rt := Q } (L2.start N vs) H := by
  obtain ⟨x, G, e, a, q⟩ := h
  have e1 : L2.start N vs = vs.map some ++ List.replicate n none := by
    unfold L2.start
    rw [hN, a.length, hl, Nat.add_sub_cancel_left]
  rw [e1]
  exact b x (frm G H) G Q q _ H G (Hs.enter e) (Sl.start n a)
section
variable {P : Program} {w : World} {K : PySem.W.Frag} {mg : Str → Option Value}
theorem Cal.mk' {α : Type} {as : α → List Ty} {r : α → Ty} {x : Str} {N ps : List Str} {k n : Nat} (T : En K mg) (i j : Nat) {d : He.DefD} (hd : fn[i]? = some d) (hg : fa[j]? = some (.glo x)) (h1 : d.at_ = (x, none)) (h2 : d.dfl = []) (h3 : d.kwd = []) (S : FnScope N ps d.scope)
    (hN : N.length = ps.length + n) (hl : ∀ y, (as y).length = ps.length)
    (hb : ∀ (kV doc pm : Value) (an : Option Addr) (cdv ct : Value) (us : List Value), us.length = ps.length → bindArgs (PySem.W.fnOf d.name d.qual d.params d.body d.scope .none kV doc pm an cdv ct) ⟨us, []⟩ = pure (ps.zip us))
    (hbody : ∀ (base : Heap) (cdv : Value) (A : Around) (outer : List Env) (s : Shared) (H : Hp) (E : XK), Room k (A.deeper (envOfC d.qual d.scope s.heap.objs.size (He.ga K x) cdv)) →
      ∃ t, PSs (cxOf CX0 P w K mg base N d.qual d.scope (He.ga K x) cdv A outer s H E).nox d.body t ∧ Body t n as r) : Cal P w K mg x (k + 1) ps (spT as r) := by
  obtain ⟨fd, F⟩ := T.defD i hd
  have e1 : d.dvs K = [] := by unfold He.DefD.dvs; rw [h2]; rfl
  have e2 : d.kws K = [] := by unfold He.DefD.kws; rw [h3]; rfl
  have e3 : He.fAd K d.at_ = He.ga K x := by rw [h1]; rfl
  rw [e1, e2, e3] at F
  refine ⟨_, fd, T.glo j hg, F.kp, ⟨F.bindsN hb, inK_of F⟩, fun base => F.ok S (fun vs H Q E h => ?_) fun cdv A outer s H vs Q E hr h => ?_⟩
  · obtain ⟨y, G, _, a, _⟩ := h
    rw [a.length, hl]
  · obtain ⟨t, h4, h5⟩ := hbody base cdv A outer s H E hr
    exact ⟨t, h4.nox, body_run h5 hN hl h⟩
theorem CalM.mk' {α : Type} {as : α → List Ty} {r : α → Ty} {x : Str} {N ps : List Str} {k n : Nat} (T : En K mg) (i : Nat) {d : He.DefD} (hd : fn[i]? = some d) (h1 : d.at_ = (("Picture" : Str), some x)) (h2 : d.dfl = []) (h3 : d.kwd = []) (S : FnScope N ps d.scope)
    (hN : N.length = ps.length + n) (hl : ∀ y, (as y).length = ps.length)
    (hb : ∀ (kV doc pm : Value) (an : Option Addr) (cdv ct : Value) (us : List Value), us.length = ps.length → bindArgs (PySem.W.fnOf d.name d.qual d.params d.body d.scope .none kV doc pm an cdv ct) ⟨us, []⟩ = pure (ps.zip us))
    (hbody : ∀ (base : Heap) (cdv : Value) (A : Around) (outer : List Env) (s : Shared) (H : Hp) (E : XK), Room k (A.deeper (envOfC d.qual d.scope s.heap.objs.size (He.ma K (cP K) x) cdv)) →
      ∃ t, PSs (cxOf CX0 P w K mg base N d.qual d.scope (He.ma K (cP K) x) cdv A outer s H E).nox d.body t ∧ Body t n as r) : CalM P w K mg (He.ma K (cP K) x) (k + 1) ps (spT as r) := by
  obtain ⟨fd, F⟩ := T.defD i hd
  have e1 : d.dvs K = [] := by unfold He.DefD.dvs; rw [h2]; rfl
  have e2 : d.kws K = [] := by unfold He.DefD.kws; rw [h3]; rfl
  have e3 : He.fAd K d.at_ = He.ma K (cP K) x := by rw [h1]; rfl
  rw [e1, e2, e3] at F
  refine ⟨fd, F.bindsN hb, fun base => F.ok S (fun vs H Q E h => ?_) fun cdv A outer s H vs Q E hr h => ?_⟩
  · obtain ⟨y, G, _, a, _⟩ := h
    rw [a.length, hl]
  · obtain ⟨t, h4, h5⟩ := hbody base cdv A outer s H E hr
    exact ⟨t, h4.nox, body_run h5 hN hl h⟩
end
end K89
namespace K89
open PySem PySem.Spec PyProof.Rows L2
section
variable {Γ : Gam} {M : List Mut1} {ta : TA} {te : TE} {t : Ty} {E0 : XK} {α : Type} {as : α → List Ty} {r : α → Ty} {C : Addr} {f : Str} {at1 : List (Str × Ty)} {ts : List Ty}
theorem e_f (x : α) (h : EA ta Γ M (as x)) (e : r x = t := by rfl) : K89.E (tCall (spT as r) [] E0 ta) Γ M t := (e_call x h).to e
theorem e_m (x : α) (ho : K89.E te Γ M (tO C at1)) (h : EA ta Γ M ts) (hn : dLook f at1 = none) (hx : as x = tO C at1 :: ts := by rfl) (e : r x = t := by rfl) : K89.E (tMeth C f (spT as r) [] E0 te ta) Γ M t := (e_meth x ho h hx hn).to e
theorem e_p (x : α) (ho : K89.E te Γ M (tO C at1)) (hx : as x = [tO C at1] := by rfl) (e : r x = t := by rfl) : K89.E (tProp C (spT as r) [] E0 te) Γ M t := (e_prop x ho hx).to e
end
end K89
set_option Elab.async false
set_option linter.all false
set_option maxRecDepth 100000
set_option maxHeartbeats 4000000
/-! K89M: events, rows, their types; the walk over a text. -/
namespace K89
open PySem PySem.Spec PyProof.Rows L2
inductive Ev where
  | do_ (s : Str)
  | say (l g : Nat) (t : Str)
  | hear (l : Nat)
def Ev.tys : Ev → List Ty
  | .do_ s => [tS "do", tS s]
  | .say l g t => [tS "say", tn l, tn g, tS t]
  | .hear l => [tS "hear", tn l]
def tEv (e : Ev) : Ty := tT e.tys
abbrev Row := List Ev
def tRow (tup : Bool) (r : Row) : Ty := tSq tup (r.map tEv)
def tRows (tup : Bool) (rs : List Row) : Ty := tSq tup (rs.map (tRow tup))
def signs : Str := "abcdefghijklmnopqrstuvwxyz0123456789"
def TextOk (s : Str) : Prop := s.length ≤ 8 ∧ ∀ c ∈ s.cps.toList, c ∈ signs.cps.toList
def StepOk (n h : Nat) : Ev → Prop
  | .do_ s => TextOk s
  | .say _ g t => g < n ∧ g ≠ h ∧ TextOk t
  | .hear _ => True
section
variable {F B : Hp} {Γ : Gam} {M : List Mut1} {ta tb tc te : TE} {tt : TT} {t u : Ty} {ts us : List Ty} {K : PySem.W.Frag} {p : Addr} {m : MTy}
theorem src_str {z : Str} (h : E te Γ M (tS z)) : Src (iStr te) Γ M (z.cps.toList.map fun c => tS ⟨#[c]⟩) := fun F B σ H G s g R q => h F B σ H G s g _ fun v H' G' s' e' a => by
  have a' : v = .str z := a
  subst a'
  refine ⟨z, rfl, q _ H' G' s' e' ⟨fun _ => True, fun i H v H' => H' = H ∧ ∃ c, z.cps[i]? = some c ∧ v = .str ⟨#[c]⟩, ?_, fun _ _ => trivial, fun i t x H1 H2 G1 hi e1 e2 y => ?_⟩⟩
  · have w := walk_str (z := z)
    rw [List.length_map, Array.length_toList]
    exact w
  · obtain ⟨rfl, c, hc, rfl⟩ := y
    rw [List.getElem?_map, Array.getElem?_toList, hc] at hi
    have hi' := Option.some.inj hi
    subst hi'
    exact ⟨G1, Er.refl _, e2, Frm.refl _ _, rfl⟩
def rInS : R2 := fun x y H Q => ∃ (c : Nat) (z : Str), x = .str ⟨#[c]⟩ ∧ y = .str z ∧ Q (.bl (decide (c ∈ z.cps.toList))) H
theorem op_inS {X : Cx} : OpR X (compareOp .In) rInS := op_in_sign
theorem e_inS {c : Nat} {z : Str} (ha : E ta Γ M (tS ⟨#[c]⟩)) (hb : E tb Γ M (tS z)) : E (tOp rInS ta tb) Γ M (tB (decide (c ∈ z.cps.toList))) := fun F B σ H G s g Q q =>
  ha F B σ H G s g _ fun v1 H1 G1 s1 e1 a1 => hb F B σ H1 G1 s1 (g.mono e1) _ fun v2 H2 G2 s2 e2 a2 => ⟨c, z, a1, a2, q _ H2 G2 s2 (e1.trans e2) rfl⟩
theorem e_eqT {x y : V} (ha : E ta Γ M (tV x)) (hb : E tb Γ M (tV y)) (hs : scal x y = true) (h : x = y) : E (tOp rEq ta tb) Γ M (tB true) := (e_eq ha hb hs).to (congrArg tB (decide_eq_true h))
theorem e_eqF {x y : V} (ha : E ta Γ M (tV x)) (hb : E tb Γ M (tV y)) (hs : scal x y = true) (h : x ≠ y) : E (tOp rEq ta tb) Γ M (tB false) := (e_eq ha hb hs).to (congrArg tB (decide_eq_false h))
theorem e_neT {x y : V} (ha : E ta Γ M (tV x)) (hb : E tb Γ M (tV y)) (hs : scal x y = true) (h : x ≠ y) : E (tOp rNe ta tb) Γ M (tB true) := (e_ne ha hb hs).to (by rw [decide_eq_false h] <;> rfl)
theorem e_neF {x y : V} (ha : E ta Γ M (tV x)) (hb : E tb Γ M (tV y)) (hs : scal x y = true) (h : x = y) : E (tOp rNe ta tb) Γ M (tB false) := (e_ne ha hb hs).to (by rw [decide_eq_true h] <;> rfl)
theorem s_ne {a b : Str} (h : a ≠ b) : V.str a ≠ V.str b := fun z => h (by injection z)
theorem i_ne {a b : Int} (h : a ≠ b) : V.int a ≠ V.int b := fun z => h (by injection z)
theorem n_ne {a b : Nat} (h : a ≠ b) : V.int (a : Int) ≠ V.int (b : Int) := i_ne (by omega)
theorem e_tup2 {t1 t2 : Ty} (h : E ta Γ M t1) (k : E tb Γ M t2) : E (tTup (tCons ta (tCons tb tNil))) Γ M (tT [t1, t2]) := e_tup (ea_cons h (ea_cons k ea_nil)) (by show 2 ≤ 100000; decide)
theorem e_tup3 {t1 t2 t3 : Ty} (h : E ta Γ M t1) (k : E tb Γ M t2) (l : E tc Γ M t3) : E (tTup (tCons ta (tCons tb (tCons tc tNil)))) Γ M (tT [t1, t2, t3]) := e_tup (ea_cons h (ea_cons k (ea_cons l ea_nil))) (by show 3 ≤ 100000; decide)
theorem e_pr {a b : Nat} (h : E ta Γ M (tn a)) (k : E tb Γ M (tn b)) : E (tTup (tCons ta (tCons tb tNil))) Γ M (tPr (a, b)) := e_tup2 h k
/-- all([..]), any([..]) -/
theorem e_allC {α : Type} {xs : List α} {f : α → Bool} (h : EN te Γ M (mL (xs.map fun x => tB (f x)))) : E (tCB (rAll K) (tCons te tNil)) Γ M (tB (xs.all f)) := by
  have e : (xs.map fun x => tB (f x)) = (xs.map f).map tB := by rw [List.map_map] <;> rfl
  rw [e] at h
  exact (e_bi1 h.l bi_all).to (congrArg tB (by rw [List.all_map] <;> rfl))
theorem e_anyC {α : Type} {xs : List α} {f : α → Bool} (h : EN te Γ M (mL (xs.map fun x => tB (f x)))) : E (tCB (rAny K) (tCons te tNil)) Γ M (tB (xs.any f)) := by
  have e : (xs.map fun x => tB (f x)) = (xs.map f).map tB := by rw [List.map_map] <;> rfl
  rw [e] at h
  exact (e_bi1 h.l bi_any).to (congrArg tB (by rw [List.any_map] <;> rfl))
theorem all_map {α : Type} {xs : List α} {f : α → Bool} (h : ∀ x ∈ xs, f x = true) : (xs.map f).all id = true := by
  rw [List.all_map, List.all_eq_true]
  exact h
end
theorem Sl.fg {G : Hp} : ∀ {Γ : Gam} {σ : L2.St} (i : Nat), Sl Γ σ G → Sl (Γ.set i none) σ G
  | [], [], _, _ => trivial
  | none :: _, _ :: _, 0, h => h
  | some _ :: _, _ :: _, 0, h => h.2
  | none :: Γ, _ :: σ, i + 1, h => Sl.fg (Γ := Γ) (σ := σ) i h
  | some _ :: Γ, _ :: σ, i + 1, h => ⟨h.1, Sl.fg (Γ := Γ) (σ := σ) i h.2⟩
  | [], _ :: _, _, h => h.elim
  | none :: _, [], _, h => h.elim
  | some _ :: _, [], _, h => h.elim
theorem Sl.fgs {G : Hp} {Γ : Gam} {σ : L2.St} (h : Sl Γ σ G) : ∀ vs : List Nat, Sl (K89.wip Γ vs) σ G
  | [] => h
  | v :: vs => (Sl.fgs h vs).fg v
/-- slots forgotten -/
theorem n_fg {P : L2.St → Hp → Prop} {F B : Hp} {Γ : Gam} {M : List Mut1} (vs : List Nat) (h : N P F B (K89.wip Γ vs) M) : N P F B Γ M := fun σ H G s g => h σ H G s (g.fgs vs)
theorem vint {a b : Int} : decide (V.int a = V.int b) = decide (a = b) := by
  by_cases h : a = b
  · rw [h, decide_eq_true rfl, decide_eq_true rfl]
  · rw [decide_eq_false h, decide_eq_false fun z => h (by injection z)]
theorem vnat {a b : Nat} : decide (V.int (a : Int) = V.int (b : Int)) = decide (a = b) := by
  rw [vint]
  exact decide_eq_decide.mpr (by omega)
theorem vstr {a b : Str} : decide (V.str a = V.str b) = decide (a = b) := by
  by_cases h : a = b
  · rw [h, decide_eq_true rfl, decide_eq_true rfl]
  · rw [decide_eq_false h, decide_eq_false fun z => h (by injection z)]
theorem bo_isinstance : bootBuiltins "isinstance" = some (.builtin "isinstance") := by decide +kernel
theorem bo_int : bootBuiltins "int" = some (.type "int") := by decide +kernel
theorem bo_bool : bootBuiltins "bool" = some (.type "bool") := by decide +kernel
theorem bo_str : bootBuiltins "str" = some (.type "str") := by decide +kernel
theorem bo_dict : bootBuiltins "dict" = some (.type "dict") := by decide +kernel
theorem bo_list : bootBuiltins "list" = some (.type "list") := by decide +kernel
theorem bo_tuple : bootBuiltins "tuple" = some (.type "tuple") := by decide +kernel
theorem bo_len : bootBuiltins "len" = some (.builtin "len") := by decide +kernel
theorem bo_all : bootBuiltins "all" = some (.builtin "all") := by decide +kernel
theorem bo_any : bootBuiltins "any" = some (.builtin "any") := by decide +kernel
theorem bo_sorted : bootBuiltins "sorted" = some (.builtin "sorted") := by decide +kernel
theorem bo_set : bootBuiltins "set" = some (.type "set") := by decide +kernel
theorem bo_sum : bootBuiltins "sum" = some (.builtin "sum") := by decide +kernel
theorem bo_max : bootBuiltins "max" = some (.builtin "max") := by decide +kernel
theorem bo_min : bootBuiltins "min" = some (.builtin "min") := by decide +kernel
theorem bo_abs : bootBuiltins "abs" = some (.builtin "abs") := by decide +kernel
theorem bo_divmod : bootBuiltins "divmod" = some (.builtin "divmod") := by decide +kernel
theorem bo_repr : bootBuiltins "repr" = some (.builtin "repr") := by decide +kernel
end K89
namespace K89
open PySem PySem.Spec PyProof.Rows L2
section
variable {X : Cx} {K : PySem.W.Frag}
theorem ix_listK (h : X.K = K) : IxR X (rIxL K) := h ▸ ix_list
theorem ix_tupK (h : X.K = K) : IxR X (rIxT K) := h ▸ ix_tup
theorem ix_seqK (h : X.K = K) : IxR X (rIx K) := h ▸ ix_seq
theorem sl_listK (h : X.K = K) : SlR X (rSlL K) := h ▸ sl_list
theorem sl_tupAK (h : X.K = K) : SlR X (rSlA K) := h ▸ sl_tupA
theorem op_in_seqK (h : X.K = K) : OpR X (compareOp .In) (rIn K false) := h ▸ op_in_seq
theorem op_notIn_seqK (h : X.K = K) : OpR X (compareOp .NotIn) (rIn K true) := h ▸ op_notIn_seq
theorem call_lOfK (h : X.K = K) : CallR X (.type "list") (rListOf K) := h ▸ call_lOf
theorem call_tOfK (h : X.K = K) : CallR X (.type "tuple") (rTupOf K) := h ▸ call_tOf
theorem call_lenK (h : X.K = K) : CallR X (.builtin "len") (rLen K) := h ▸ call_len
theorem cr_maxK (hc : X.calm = true) (h : X.K = K) : CallR X (.builtin "max") (rMax K) := h ▸ cr_max hc
theorem pe_fldK {e : Expr} {f : Str} {pos : Pos} {ta : TE} (h : X.K = K) (he : PE X e ta) (hb : attributeBase e f X.env (eval e X.env) = eval e X.env) : PE X (.Attribute e f pos) (tFld K ta f) := h ▸ pe_fld he hb
theorem pg_tupK {es : List Expr} {k : Nat} {t : TGs} {n : Nat} {pos : Pos} (e : X.K = K) (hc : X.calm = true) (h : PGs X es t)
    (hn : (assignEach es X.env).length = n := by rfl) (hst : (assignEach es X.env).findIdx? (·.1) = none := by rfl) : PG X (.Tuple es k pos) (gTup K n t) := e ▸ pg_tup hc h hn hst
end
end K89
set_option Elab.async false
set_option linter.all false
set_option maxRecDepth 100000
set_option maxHeartbeats 4000000
/-! K89P: places in the rows, pictures' types; an object under construction, looked at. -/
namespace K89
open PySem PySem.Spec PyProof.Rows L2
/-- all events' places, row by row -/
def evs : Nat → List Row → List (Nat × Nat)
  | _, [] => []
  | h, r :: rs => ((List.range r.length).map fun p => (h, p)) ++ evs (h + 1) rs
theorem evs_snoc {r : Row} : ∀ {rs : List Row} {h : Nat}, evs h (rs ++ [r]) = evs h rs ++ (List.range r.length).map fun p => (h + rs.length, p)
  | [], h => by simp [evs]
  | q :: rs, h => by
    show _ ++ evs (h + 1) (rs ++ [r]) = (_ ++ evs (h + 1) rs) ++ _
    rw [evs_snoc, List.append_assoc, List.length_cons]
    have e : h + 1 + rs.length = h + (rs.length + 1) := by omega
    rw [e]
theorem evs_take {rs : List Row} {i : Nat} {r : Row} (h : rs[i]? = some r) : evs 0 (rs.take (i + 1)) = evs 0 (rs.take i) ++ (List.range r.length).map fun p => (i, p) := by
  have hi := (List.getElem?_eq_some_iff.mp h).1
  rw [List.take_succ, h]
  show evs 0 (rs.take i ++ [r]) = _
  rw [evs_snoc, List.length_take, Nat.min_eq_left (Nat.le_of_lt hi), Nat.zero_add]
def evAt (rs : List Row) (h p : Nat) : Option Ev := (rs[h]?).bind fun r => r[p]?
theorem mem_evs {rs : List Row} : ∀ {k h p : Nat}, (h, p) ∈ evs k rs ↔ k ≤ h ∧ ∃ e, evAt rs (h - k) p = some e := by
  induction rs with
  | nil =>
    intro k h p
    simp [evs, evAt]
  | cons r rs ih =>
    intro k h p
    show (h, p) ∈ _ ++ evs (k + 1) rs ↔ _
    rw [List.mem_append, ih, List.mem_map]
    constructor
    · rintro (⟨a, ha, e⟩ | ⟨h1, e, he⟩)
      · injection e with e1 e2
        subst e1 e2
        have ha' : a < r.length := List.mem_range.mp ha
        exact ⟨Nat.le_refl _, r[a], by simp [evAt, ha']⟩
      · refine ⟨by omega, e, ?_⟩
        have e2 : h - k = (h - (k + 1)) + 1 := by omega
        rw [e2]
        exact he
    · rintro ⟨h1, e, he⟩
      by_cases z : h = k
      · subst z
        rw [Nat.sub_self] at he
        have he' : r[p]? = some e := he
        exact .inl ⟨p, List.mem_range.mpr (List.getElem?_eq_some_iff.mp he').1, rfl⟩
      · refine .inr ⟨by omega, e, ?_⟩
        have e2 : h - k = (h - (k + 1)) + 1 := by omega
        rw [e2] at he
        exact he
def Ev.tag : Ev → Str
  | .do_ _ => "do"
  | .say _ _ _ => "say"
  | .hear _ => "hear"
def wordOf (b : Bool) : Str := if b then "say" else "hear"
/-- the letter of a word's event -/
def Ev.let_ (b : Bool) : Ev → Option Nat
  | .do_ _ => none
  | .say l _ _ => if b then some l else none
  | .hear l => if b then none else some l
/-- letter, house, place of each event of the word -/
def plOf (b : Bool) (rs : List Row) (z : Nat × Nat) : Option (Nat × Nat × Nat) := ((evAt rs z.1 z.2).bind (Ev.let_ b)).map fun l => (l, z.1, z.2)
def pls (b : Bool) (rs : List Row) : List (Nat × Nat × Nat) := (evs 0 rs).filterMap (plOf b rs)
def eK (z : Nat × Nat × Nat) : Key × Ty := (kn z.1, tT [tn z.2.1, tn z.2.2])
def plK (b : Bool) (rs : List Row) : List (Key × Ty) := (pls b rs).map eK
def sizes (rs : List Row) : List Nat := rs.map List.length
theorem mem_pls {b : Bool} {rs : List Row} {l h p : Nat} : (l, h, p) ∈ pls b rs ↔ (evAt rs h p).bind (Ev.let_ b) = some l := by
  unfold pls
  rw [List.mem_filterMap]
  constructor
  · rintro ⟨⟨h', p'⟩, hz, e⟩
    unfold plOf at e
    cases q : (evAt rs h' p').bind (Ev.let_ b) with
    | none => rw [q] at e; cases e
    | some l' =>
      rw [q] at e
      injection e with e
      injection e with e1 e2
      injection e2 with e2 e3
      subst e1 e2 e3
      exact q
  · intro e
    refine ⟨(h, p), mem_evs.mpr ⟨Nat.zero_le _, ?_⟩, ?_⟩
    · rw [Nat.sub_zero]
      cases q : evAt rs h p with
      | none => rw [q] at e; cases e
      | some ev => exact ⟨ev, rfl⟩
    · unfold plOf
      rw [e]
      rfl
/-- no key twice: what stands at a key -/
theorem kn_inj {a b : Nat} (h : kn a = kn b) : a = b := by
  have h1 : (a : Int) = b := by injection h
  omega
theorem dLook_eK : ∀ {zs : List (Nat × Nat × Nat)} {l h p : Nat}, (zs.map (·.1)).Nodup → (l, h, p) ∈ zs → dLook (kn l) (zs.map eK) = some (tT [tn h, tn p])
  | [], _, _, _, _, m => by cases m
  | z :: zs, l, h, p, nd, m => by
    show (if kn z.1 = kn l then some (eK z).2 else dLook (kn l) (zs.map eK)) = _
    rcases List.mem_cons.mp m with e | e
    · rw [← e, if_pos rfl]
      rfl
    · have ne : z.1 ≠ l := fun q => (List.nodup_cons.mp nd).1 (List.mem_map.mpr ⟨_, e, q.symm⟩)
      rw [if_neg fun q => ne (kn_inj q)]
      exact dLook_eK (List.nodup_cons.mp nd).2 e
theorem dLook_eK_none {zs : List (Nat × Nat × Nat)} {l : Nat} (h : l ∉ zs.map (·.1)) : dLook (kn l) (zs.map eK) = none := by
  refine dLook_no.mpr fun m => h ?_
  rw [List.map_map] at m
  obtain ⟨z, h1, h2⟩ := List.mem_map.mp m
  exact List.mem_map.mpr ⟨z, h1, kn_inj h2⟩
/-- what a picture's attributes are -/
structure PicOk (as : List (Str × Ty)) (rs : List Row) : Prop where
  own : dLook (κ := Str) "own_rows" as = some (tRows true rs)
  siz : dLook (κ := Str) "sizes" as = some (tT ((sizes rs).map tn))
  say : dLook (κ := Str) "sayings" as = some (tD (plK true rs))
  hea : dLook (κ := Str) "hearings" as = some (tD (plK false rs))
  no : ∀ f ∈ (["rows", "letters", "said", "heard", "places_of"] : List Str), dLook f as = none
/-- types that don't lean on an instance -/
def NoIns (t : Ty) : Prop := ∀ v G p C dx fs, G p = some (.ins C dx fs) → t.at_ v G → t.at_ v (rem G p)
theorem ni_V {v : V} : NoIns (tV v) := fun _ _ _ _ _ _ _ h => h
theorem ni_Any : NoIns tAny := fun _ _ _ _ _ _ _ h => h
theorem ni_Ex {α : Type} {q : α → Prop} {f : α → Ty} (h : ∀ x, NoIns (f x)) : NoIns (tEx q f) := fun v G p C dx fs e ⟨x, h1, h2⟩ => ⟨x, h1, h x v G p C dx fs e h2⟩
theorem ni_At {ts : List Ty} (h : ∀ t ∈ ts, NoIns t) : ∀ {vs : List V} {G : Hp} {p C dx : Addr} {fs : List (Str × V)}, G p = some (.ins C dx fs) → At ts vs G → At ts vs (rem G p) := by
  induction ts with
  | nil =>
    intro vs G p C dx fs e q
    cases vs <;> exact q
  | cons t ts ih =>
    intro vs G p C dx fs e q
    cases vs with
    | nil => exact q
    | cons v vs => exact ⟨h t (List.mem_cons_self ..) v G p C dx fs e q.1, ih (fun u hu => h u (List.mem_cons_of_mem _ hu)) e q.2⟩
theorem ni_Sq {tup : Bool} {ts : List Ty} (h : ∀ t ∈ ts, NoIns t) : NoIns (tSq tup ts) := fun v G p C dx fs e ⟨a, vs, e1, e2, e3⟩ => by
  refine ⟨a, vs, e1, ?_, ni_At h e e3⟩
  rw [rem_ne]
  · exact e2
  · intro z
    subst z
    rw [e] at e2
    cases tup <;> cases e2
theorem ni_AtD {κ : Type} {ts : List (κ × Ty)} (h : ∀ t ∈ ts, NoIns t.2) : ∀ {vs : List (κ × V)} {G : Hp} {p C dx : Addr} {fs : List (Str × V)}, G p = some (.ins C dx fs) → AtD ts vs G → AtD ts vs (rem G p) := by
  induction ts with
  | nil =>
    intro vs G p C dx fs e q
    cases vs <;> exact q
  | cons t ts ih =>
    intro vs G p C dx fs e q
    cases vs with
    | nil => exact q
    | cons v vs => exact ⟨q.1, h t (List.mem_cons_self ..) v.2 G p C dx fs e q.2.1, ih (fun u hu => h u (List.mem_cons_of_mem _ hu)) e q.2.2⟩
theorem ni_D {kvs : List (Key × Ty)} (h : ∀ t ∈ kvs, NoIns t.2) : NoIns (tD kvs) := fun v G p C dx fs e ⟨a, o, vs, e1, e2, e3⟩ => by
  refine ⟨a, o, vs, e1, ?_, ni_AtD h e e3⟩
  rw [rem_ne]
  · exact e2
  · intro z
    subst z
    rw [e] at e2
    cases e2
section
variable {F B : Hp} {Γ : Gam} {M : List Mut1} {ta tb tc te tv : TE} {tt : TT} {t u : Ty} {ts us : List Ty} {K : PySem.W.Frag} {p C : Addr} {m : MTy} {as : List (Str × Ty)} {nx bk ct : L2.St → Hp → Prop} {rt : VK}
/-- an instance of ours, looked at -/
theorem E.focusO {i j : Nat} (hp : Γ[i]? = some (some (tR p))) (hj : M[j]? = some (p, mO C as)) (h : E te (Γ.set i (some (tO C as))) [] t) (ht : NoIns t) : E te Γ M t := fun F B σ H G s g Q q => by
  obtain ⟨_, _, o, h3, dx, fs, h4, h5⟩ := s.mm p _ (List.mem_of_getElem? hj)
  subst h4
  have hg : G p = none := (s.mm p _ (List.mem_of_getElem? hj)).2.1
  obtain ⟨a1, a2, a3, a4⟩ := focus_core (t := tO C as) hp hj s g h3 ⟨p, dx, fs, rfl, upd_same, h5.mono (Er.grow hg)⟩
  refine h _ B σ H _ a1 a3 Q fun v H' G' s' e' a => ?_
  obtain ⟨b1, b2⟩ := a4 s' e'
  exact q v H' _ b1 b2 (ht v _ p C dx fs (e' p _ upd_same) a)
/-- self.f = e -/
theorem putF_new {f : Str} {v : V} {G : Hp} (a : t.at_ v G) : ∀ {as : List (Str × Ty)} {fs : List (Str × V)}, dLook f as = none → AtD as fs G → AtD (as ++ [(f, t)]) (putF f v fs) G
  | [], [], _, _ => ⟨rfl, a, trivial⟩
  | b :: as, c :: fs, e, h => by
    obtain ⟨k, x⟩ := c
    have hk : k = b.1 := h.1
    unfold dLook at e
    by_cases z : b.1 = f
    · rw [if_pos z] at e
      cases e
    · rw [if_neg z] at e
      show AtD (b :: (as ++ [(f, t)])) (if k = f then (k, v) :: fs else (k, x) :: putF f v fs) G
      rw [if_neg fun q => z (hk.symm.trans q)]
      exact ⟨h.1, h.2.1, putF_new a e h.2.2⟩
  | [], _ :: _, _, h => h.elim
  | _ :: _, [], _, h => h.elim
theorem n_fldO {j : Nat} {f : Str} (hj : M[j]? = some (p, mO C as)) (hv : E tv Γ M t) (ha : E ta Γ M (tR p)) (c : Cls K C) (n : NoAttr K C f) (hf : dLook f as = none) (hz : as.length < 100) (k : N nx F B Γ (M.set j (p, mO C (as ++ [(f, t)])))) : N (sFld K ta tv f ⟨nx, rt, bk, ct⟩) F B Γ M := fun σ H G s g =>
  hv F B σ H G s g _ fun v1 H1 G1 s1 e1 a1 => ha F B σ H1 G1 s1 (g.mono e1) _ fun v2 H2 G2 s2 e2 a2 => by
    have a2' : v2 = .ref p := a2
    subst a2'
    obtain ⟨_, _, o, h3, dx, fs, h4, h5⟩ := s2.mm p _ (List.mem_of_getElem? hj)
    subst h4
    have hl : fs.length < 1000 := by
      have : fs.length = as.length := AtD.length h5
      omega
    exact ⟨p, C, dx, fs, rfl, h3, c, n, hl, k _ _ G2 (s2.put hj ⟨dx, _, rfl, putF_new (t.mono e2 a1) hf h5⟩) ((g.mono e1).mono e2)⟩
end
end K89
set_option Elab.async false
set_option linter.all false
/-! K89X: the plain law, part one: rows that grow by events. -/
namespace K89
open PySem
def letAt (b : Bool) (rs : List Row) (h p : Nat) : Option Nat := (evAt rs h p).bind (Ev.let_ b)
/-- a letter of a word stands at one place -/
def Uq (b : Bool) (rs : List Row) : Prop := ∀ h p h' p' l, letAt b rs h p = some l → letAt b rs h' p' = some l → h = h' ∧ p = p'
theorem evs_nodup : ∀ {rs : List Row} {k : Nat}, (evs k rs).Nodup
  | [], _ => List.nodup_nil
  | r :: rs, k => by
    show (((List.range r.length).map fun p => (k, p)) ++ evs (k + 1) rs).Nodup
    refine List.nodup_append.mpr ⟨?_, evs_nodup, fun a ha b hb e => ?_⟩
    · exact List.pairwise_map.mpr (List.Pairwise.imp (fun ne e => ne (by injection e)) List.nodup_range)
    · obtain ⟨p, _, rfl⟩ := List.mem_map.mp ha
      subst e
      have := (mem_evs.mp hb).1
      omega
theorem pls_nodup {b : Bool} {rs : List Row} (u : Uq b rs) : ((pls b rs).map (·.1)).Nodup := by
  have nd : (pls b rs).Nodup := by
    unfold pls
    refine List.Pairwise.filterMap _ (R := (· ≠ ·)) ?_ evs_nodup
    rintro ⟨h, p⟩ ⟨h', p'⟩ ne z hz z' hz' e
    subst e
    refine ne ?_
    unfold plOf at hz hz'
    cases q : (evAt rs h p).bind (Ev.let_ b) with
    | none => rw [q] at hz; cases hz
    | some l =>
      cases q' : (evAt rs h' p').bind (Ev.let_ b) with
      | none => rw [q'] at hz'; cases hz'
      | some l' =>
        rw [q] at hz
        rw [q'] at hz'
        have e1 := Option.some.inj hz
        have e2 := Option.some.inj hz'
        rw [← e1] at e2
        exact (congrArg Prod.snd e2).symm
  refine List.pairwise_map.mpr (List.Pairwise.imp_of_mem ?_ nd)
  rintro ⟨l, h, p⟩ ⟨l', h', p'⟩ m m' ne e
  have e' : l = l' := e
  subst e'
  have h1 : letAt b rs h p = some l := mem_pls.mp m
  have h2 : letAt b rs h' p' = some l := mem_pls.mp m'
  obtain ⟨rfl, rfl⟩ := u _ _ _ _ _ h1 h2
  exact ne rfl
def sz (rs : List Row) (h : Nat) : Nat := (rs.getD h []).length
theorem evAt_lt {rs : List Row} {h p : Nat} {e : Ev} (q : evAt rs h p = some e) : h < rs.length ∧ p < sz rs h := by
  unfold evAt at q
  cases r : rs[h]? with
  | none => rw [r] at q; cases q
  | some row =>
    rw [r] at q
    have q' : row[p]? = some e := q
    refine ⟨(List.getElem?_eq_some_iff.mp r).1, ?_⟩
    unfold sz
    rw [List.getD_eq_getElem?_getD, r]
    exact (List.getElem?_eq_some_iff.mp q').1
theorem evAt_some {rs : List Row} {h p : Nat} (q : p < sz rs h) : ∃ e, evAt rs h p = some e := by
  unfold sz at q
  rw [List.getD_eq_getElem?_getD] at q
  unfold evAt
  cases r : rs[h]? with
  | none => rw [r] at q; simp at q
  | some row =>
    rw [r] at q
    exact ⟨row[p]'q, by show row[p]? = _; exact List.getElem?_eq_getElem q⟩
/-- house h may go on -/
def Ready (rs : List Row) (c : Nat → Nat) (h : Nat) : Prop := c h < sz rs h ∧ ∀ l, evAt rs h (c h) = some (.hear l) → ∃ s p g t, evAt rs s p = some (.say l g t) ∧ p < c s
def Prog (rs : List Row) : Prop := ∀ c : Nat → Nat, (∀ h, c h ≤ sz rs h) → (∃ h, c h < sz rs h) → ∃ h, Ready rs c h
structure Good (rs : List Row) : Prop where
  u1 : Uq true rs
  u2 : Uq false rs
  ok : ∀ h p e, evAt rs h p = some e → StepOk rs.length h e
  heard : ∀ h p l, evAt rs h p = some (.hear l) → ∃ h' p' t, evAt rs h' p' = some (.say l h t)
  prog : Prog rs
  low : ∀ h p l g t, evAt rs h p = some (.say l g t) → l < 1000
/-- an event more -/
def app (rs : List Row) (k : Nat) (e : Ev) : List Row := rs.set k (rs.getD k [] ++ [e])
theorem app_len {rs : List Row} {k : Nat} {e : Ev} : (app rs k e).length = rs.length := List.length_set ..
theorem app_sz {rs : List Row} {k h : Nat} {e : Ev} (hk : k < rs.length) : sz (app rs k e) h = if h = k then sz rs k + 1 else sz rs h := by
  unfold sz app
  rw [List.getD_eq_getElem?_getD, List.getElem?_set]
  by_cases z : k = h
  · subst z
    rw [if_pos rfl, if_pos rfl, if_pos hk]
    simp
  · rw [if_neg z, if_neg fun q => z q.symm, List.getD_eq_getElem?_getD]
theorem app_at {rs : List Row} {k h p : Nat} {e : Ev} (hk : k < rs.length) : evAt (app rs k e) h p = if h = k ∧ p = sz rs k then some e else evAt rs h p := by
  unfold evAt app
  rw [List.getElem?_set]
  by_cases z : k = h
  · subst z
    rw [if_pos rfl, if_pos hk]
    show (rs.getD k [] ++ [e])[p]? = _
    have e0 : rs[k]? = some (rs.getD k []) := by
      rw [List.getD_eq_getElem?_getD, List.getElem?_eq_getElem hk] <;> rfl
    rw [e0]
    show _ = if k = k ∧ p = sz rs k then some e else (rs.getD k [])[p]?
    by_cases y : p = sz rs k
    · rw [if_pos ⟨rfl, y⟩, y]
      unfold sz
      rw [List.getElem?_append_right (Nat.le_refl _), Nat.sub_self] <;> rfl
    · rw [if_neg fun q => y q.2]
      by_cases lt : p < sz rs k
      · exact List.getElem?_append_left lt
      · have g : sz rs k < p := by omega
        unfold sz at g
        rw [List.getElem?_eq_none (by rw [List.length_append, List.length_singleton]; omega), List.getElem?_eq_none (by omega)]
  · rw [if_neg z, if_neg fun q => z q.1.symm]
theorem app_old {rs : List Row} {k h p : Nat} {e e' : Ev} (hk : k < rs.length) (q : evAt rs h p = some e') : evAt (app rs k e) h p = some e' := by
  rw [app_at hk, if_neg]
  · exact q
  · rintro ⟨rfl, rfl⟩
    have := (evAt_lt q).2
    omega
theorem app_get {rs : List Row} {k h p : Nat} {e e' : Ev} (hk : k < rs.length) (q : evAt (app rs k e) h p = some e') : (h = k ∧ p = sz rs k ∧ e' = e) ∨ evAt rs h p = some e' := by
  rw [app_at hk] at q
  by_cases z : h = k ∧ p = sz rs k
  · rw [if_pos z] at q
    exact .inl ⟨z.1, z.2, (Option.some.inj q).symm⟩
  · rw [if_neg z] at q
    exact .inr q
theorem app_uq {b : Bool} {rs : List Row} {k : Nat} {e : Ev} (hk : k < rs.length) (u : Uq b rs) (n : ∀ l, e.let_ b = some l → ∀ h p, letAt b rs h p ≠ some l) : Uq b (app rs k e) := by
  have key : ∀ h p l, letAt b (app rs k e) h p = some l → (h = k ∧ p = sz rs k ∧ e.let_ b = some l) ∨ letAt b rs h p = some l := by
    intro h p l q
    unfold letAt at q
    cases r : evAt (app rs k e) h p with
    | none => rw [r] at q; cases q
    | some e' =>
      rw [r] at q
      rcases app_get hk r with ⟨h1, h2, rfl⟩ | h1
      · exact .inl ⟨h1, h2, q⟩
      · right
        unfold letAt
        rw [h1]
        exact q
  intro h p h' p' l q q'
  rcases key h p l q with ⟨a1, a2, a3⟩ | a
  · rcases key h' p' l q' with ⟨b1, b2, _⟩ | b'
    · exact ⟨by rw [a1, b1], by rw [a2, b2]⟩
    · exact absurd b' (n l a3 h' p')
  · rcases key h' p' l q' with ⟨_, _, b3⟩ | b'
    · exact absurd a (n l b3 h p)
    · exact u _ _ _ _ _ a b'
theorem app_prog {rs : List Row} {k : Nat} {e : Ev} (hk : k < rs.length) (g : Prog rs) (he : ∀ l, e = .hear l → ∃ s p g t, evAt rs s p = some (.say l g t)) : Prog (app rs k e) := by
  intro c hc hx
  by_cases hs : ∃ h, c h < sz rs h
  · obtain ⟨h, h1, h2⟩ := g (fun h => min (c h) (sz rs h)) (fun h => Nat.min_le_right ..) (by
      obtain ⟨h, hh⟩ := hs
      exact ⟨h, by show min (c h) (sz rs h) < _; omega⟩)
    have h1' : min (c h) (sz rs h) < sz rs h := h1
    have e1 : min (c h) (sz rs h) = c h := by omega
    refine ⟨h, ?_, fun l hl => ?_⟩
    · rw [app_sz hk]
      split
      · rename_i z
        subst z
        omega
      · omega
    · have ho : evAt rs h (c h) = some (.hear l) := by
        rcases app_get hk hl with ⟨z1, z2, _⟩ | z
        · subst z1
          omega
        · exact z
      have h2' := h2 l (by show evAt rs h (min (c h) (sz rs h)) = _; rw [e1]; exact ho)
      obtain ⟨s, p, gg, t, q1, q2⟩ := h2'
      have q2' : p < min (c s) (sz rs s) := q2
      exact ⟨s, p, gg, t, app_old hk q1, by omega⟩
  · have full : ∀ h, sz rs h ≤ c h := fun h => by
      by_cases z : c h < sz rs h
      · exact absurd ⟨h, z⟩ hs
      · omega
    obtain ⟨h, hh⟩ := hx
    have hk2 : h = k := by
      rw [app_sz hk] at hh
      by_cases z : h = k
      · exact z
      · rw [if_neg z] at hh
        have := full h
        omega
    subst hk2
    refine ⟨h, hh, fun l hl => ?_⟩
    rw [app_sz hk, if_pos rfl] at hh
    have := full h
    have ec : c h = sz rs h := by omega
    rcases app_get hk hl with ⟨_, _, z⟩ | z
    · obtain ⟨s, p, gg, t, q⟩ := he l z.symm
      exact ⟨s, p, gg, t, app_old hk q, by have := (evAt_lt q).2; have := full s; omega⟩
    · have := (evAt_lt z).2
      omega
theorem app_good {rs : List Row} {k : Nat} {e : Ev} (hk : k < rs.length) (g : Good rs) (h0 : StepOk rs.length k e) (h1 : ∀ l g t, e = .say l g t → l < 1000 ∧ ∀ h p g' t', evAt rs h p ≠ some (.say l g' t'))
    (h2 : ∀ l, e = .hear l → (∀ h p, evAt rs h p ≠ some (.hear l)) ∧ ∃ h' p' t, evAt rs h' p' = some (.say l k t)) : Good (app rs k e) := by
  refine ⟨app_uq hk g.u1 fun l hl h p q => ?_, app_uq hk g.u2 fun l hl h p q => ?_, fun h p e' q => ?_, fun h p l q => ?_, app_prog hk g.prog fun l hl => ?_, fun h p l gg t q => ?_⟩
  · cases e with
    | do_ s => cases hl
    | hear l' => cases hl
    | say l' g' t' =>
      have e1 : l' = l := by simpa [Ev.let_] using hl
      subst e1
      unfold letAt at q
      cases r : evAt rs h p with
      | none => rw [r] at q; cases q
      | some ev =>
        rw [r] at q
        cases ev with
        | do_ s => cases q
        | hear l2 => cases q
        | say l2 g2 t2 =>
          have e2 : l2 = l' := by simpa [Ev.let_] using q
          subst e2
          exact (h1 _ _ _ rfl).2 h p g2 t2 r
  · cases e with
    | do_ s => cases hl
    | say l' g' t' => cases hl
    | hear l' =>
      have e1 : l' = l := by simpa [Ev.let_] using hl
      subst e1
      unfold letAt at q
      cases r : evAt rs h p with
      | none => rw [r] at q; cases q
      | some ev =>
        rw [r] at q
        cases ev with
        | do_ s => cases q
        | say l2 g2 t2 => cases q
        | hear l2 =>
          have e2 : l2 = l' := by simpa [Ev.let_] using q
          subst e2
          exact (h2 _ rfl).1 h p r
  · rw [app_len]
    rcases app_get hk q with ⟨z, _, rfl⟩ | z
    · rw [z]
      exact h0
    · exact g.ok h p e' z
  · rcases app_get hk q with ⟨z, _, z2⟩ | z
    · obtain ⟨h', p', t, hh⟩ := (h2 l z2.symm).2
      exact ⟨h', p', t, by rw [z]; exact app_old hk hh⟩
    · obtain ⟨h', p', t, hh⟩ := g.heard h p l z
      exact ⟨h', p', t, app_old hk hh⟩
  · obtain ⟨h', p', t, hh⟩ := (h2 l hl).2
    exact ⟨h', p', k, t, hh⟩
  · rcases app_get hk q with ⟨_, _, z⟩ | z
    · exact (h1 l gg t z.symm).1
    · exact g.low h p l gg t z
end K89
set_option Elab.async false
set_option linter.all false
set_option maxRecDepth 100000
set_option maxHeartbeats 4000000
/-! K89G: the property's getter; drawn rows as the walks take them. -/
namespace K89
open PySem PySem.Spec PyProof.Rows L2
section
variable {P : Program} {w : World} {K : PySem.W.Frag} {mg : Str → Option Value}
abbrev aH : Arguments := defArgs s_P_houses
abbrev bH : List Stmt := defBody s_P_houses
abbrev cH : Scope := defScope s_P_houses
theorem En.prop (T : En K mg) : PropOf K (cP K) "houses" (prA K) (pgA K) ∧ ∃ fd, FunD K "houses" "Picture.houses" aH bH cH [] [] (pgA K) fd := by
  have h1 : propB K = true := congrArg (fun z : AlP => z.2.1) T.says
  have h2 : fnP K = valP := congrArg (fun z : AlP => z.2.2) T.says
  unfold propB at h1
  obtain ⟨a1, h1⟩ := He.ba h1
  obtain ⟨_, a1⟩ := He.ba a1
  obtain ⟨a2, h1⟩ := He.ba h1
  obtain ⟨a3, h1⟩ := He.ba h1
  obtain ⟨a4, h1⟩ := He.ba h1
  obtain ⟨a5, h1⟩ := He.ba h1
  refine ⟨⟨He.eqO_ok a1, He.eqO_ok a2, of_decide_eq_true a3, ?_⟩, ?_⟩
  · unfold recOkB at a4
    unfold pgA
    split at a4
    · rename_i g rest e
      rw [e]
      exact ⟨rest, rfl⟩
    · cases a4
  · unfold fnP at h2
    cases q : K.lookup (pgA K) with
    | none =>
      rw [q] at h1
      cases h1
    | some o =>
      obtain ⟨oc, od, dt, osl⟩ := o
      rw [q] at h1 h2
      cases dt with
      | func fd =>
        obtain ⟨n1, n2, n3, n4, n5, n6, n7, n8, n9, n10, n11, n12, n13, n14, n15⟩ := fd
        have e2 : (some (n1, n2, n3, n4, n5, n6, n7, n15) : He.FnW) = some (("houses" : Str), ("Picture.houses" : Str), aH, FuncBody.stmts bH, cH, mainGlobals, [], builtinsNs) := h2
        simp only [Option.some.injEq, Prod.mk.injEq] at e2
        obtain ⟨e3, e4, e5, e6, e7, e8, e9, e10⟩ := e2
        subst e3 e4 e5 e6 e7 e8 e9 e10
        have h3 : (PySem.W.codeIn K n13 "Picture.houses" && (He.dflB K n8 [] && He.kwdB K n9 [])) = true := h1
        obtain ⟨k1, k2⟩ := He.ba h3
        obtain ⟨k3, k4⟩ := He.ba k2
        exact ⟨_, ⟨oc, od, n8, n9, n10, n11, n12, n13, n14, osl, rfl, q, k1, He.dflB_ok k3, He.kwdB_ok k4⟩, a5⟩
      | _ => cases h1
/-- drawn rows: not too many -/
structure Rs (rs : List Row) : Prop where
  good : Good rs
  tot : (evs 0 rs).length ≤ 13
  n1 : 0 < rs.length
  n4 : rs.length ≤ 4
theorem row_le : ∀ {rs : List Row} {k : Nat} {r : Row}, r ∈ rs → r.length ≤ (evs k rs).length
  | [], _, _, h => by cases h
  | q :: rs, k, r, h => by
    show _ ≤ (((List.range q.length).map fun p => (k, p)) ++ evs (k + 1) rs).length
    rw [List.length_append, List.length_map, List.length_range]
    rcases List.mem_cons.mp h with e | e
    · rw [e]
      omega
    · have := row_le (k := k + 1) e
      omega
theorem Rs.row {rs : List Row} (R : Rs rs) {r : Row} (h : r ∈ rs) : r.length ≤ 13 := Nat.le_trans (row_le (k := 0) h) R.tot
theorem Rs.sz {rs : List Row} (R : Rs rs) (h : Nat) : sz rs h ≤ 13 := by
  unfold K89.sz
  rw [List.getD_eq_getElem?_getD]
  cases e : rs[h]? with
  | none => exact Nat.zero_le _
  | some r => exact R.row (List.mem_of_getElem? e)
theorem pls_len {b : Bool} {rs : List Row} : (pls b rs).length ≤ (evs 0 rs).length := List.length_filterMap_le ..
theorem Rs.pls {rs : List Row} (R : Rs rs) (b : Bool) : (K89.pls b rs).length ≤ 13 := Nat.le_trans pls_len R.tot
theorem Rs.uq {rs : List Row} (R : Rs rs) (b : Bool) : Uq b rs := by
  cases b with
  | true => exact R.good.u1
  | false => exact R.good.u2
theorem Rs.nd {rs : List Row} (R : Rs rs) (b : Bool) : ((K89.pls b rs).map (·.1)).Nodup := pls_nodup (R.uq b)
theorem dLook_pl {b : Bool} {rs : List Row} {l h p : Nat} (R : Rs rs) (q : letAt b rs h p = some l) : dLook (kn l) (plK b rs) = some (tPr (h, p)) := dLook_eK (R.nd b) (mem_pls.mpr q)
theorem dLook_pl_none {b : Bool} {rs : List Row} {l : Nat} (q : ∀ h p, letAt b rs h p ≠ some l) : dLook (kn l) (plK b rs) = none := dLook_eK_none fun m => by
  obtain ⟨⟨l', h, p⟩, m1, e⟩ := List.mem_map.mp m
  have e' : l' = l := e
  subst e'
  exact q h p (mem_pls.mp m1)
theorem atI_n {α : Type} {xs : List α} {i : Nat} {x : α} (h : xs[i]? = some x) : atI xs (i : Int) = some x := by
  have hi := (List.getElem?_eq_some_iff.mp h).1
  unfold atI
  rw [ixN_nat hi]
  exact h
theorem rows_at {tup : Bool} {rs : List Row} {h : Nat} {r : Row} (e : rs[h]? = some r) : atI (rs.map (tRow tup)) (h : Int) = some (tRow tup r) := atI_n (by rw [List.getElem?_map, e]; rfl)
theorem row_at {r : Row} {p : Nat} {e : Ev} (h : r[p]? = some e) : atI (r.map tEv) (p : Int) = some (tEv e) := atI_n (by rw [List.getElem?_map, h]; rfl)
theorem evAt_split {rs : List Row} {h p : Nat} {e : Ev} (q : evAt rs h p = some e) : ∃ r, rs[h]? = some r ∧ r[p]? = some e := by
  unfold evAt at q
  cases z : rs[h]? with
  | none => rw [z] at q; cases q
  | some r => rw [z] at q; exact ⟨r, rfl, q⟩
theorem tag_at (e : Ev) : atI e.tys 0 = some (tS e.tag) := by cases e <;> rfl
/-- a picture as the walks take it -/
structure Pc where
  as : List (Str × Ty)
  rs : List Row
  ok : PicOk as rs
  R : Rs rs
abbrev Pc.t (K : PySem.W.Frag) (x : Pc) : Ty := tO (cP K) x.as
end
end K89
set_option Elab.async false
set_option linter.all false
set_option maxRecDepth 100000
/-! K89Y: lines of houses; two objects of ours, looked at. -/
namespace K89
open PySem PySem.Spec PyProof.Rows L2
def cnt (line : List Nat) (h : Nat) : Nat := line.count h
def cntL (n : Nat) (line : List Nat) : List Nat := (List.range n).map (cnt line)
theorem cntL_len {n : Nat} {line : List Nat} : (cntL n line).length = n := by unfold cntL; simp
theorem cntL_at {n h : Nat} {line : List Nat} (hh : h < n) : (cntL n line)[h]? = some (cnt line h) := by
  unfold cntL
  rw [List.getElem?_map, List.getElem?_range hh] <;> rfl
theorem cnt_snoc {line : List Nat} {a h : Nat} : cnt (line ++ [a]) h = if h = a then cnt line h + 1 else cnt line h := by
  unfold cnt
  rw [List.count_append, List.count_singleton]
  by_cases z : h = a
  · subst z
    simp
  · rw [if_neg z]
    have : (a == h) = false := by simp; omega
    rw [this]
    simp
theorem cntL_snoc {n a : Nat} {line : List Nat} : cntL n (line ++ [a]) = (cntL n line).set a (cnt line a + 1) := by
  refine List.ext_getElem? fun i => ?_
  rw [List.getElem?_set]
  by_cases hi : i < n
  · rw [cntL_at hi, cnt_snoc, cntL_len]
    by_cases z : i = a
    · subst z
      rw [if_pos rfl, if_pos rfl, if_pos hi]
    · rw [if_neg z, if_neg fun q => z q.symm, cntL_at hi]
  · rw [List.getElem?_eq_none (by rw [cntL_len]; omega)]
    by_cases z : a = i
    · rw [if_pos z, if_neg (by rw [cntL_len]; omega)]
    · rw [if_neg z, List.getElem?_eq_none (by rw [cntL_len]; omega)]
theorem sum_set : ∀ {xs : List Nat} {i x : Nat}, xs[i]? = some x → (xs.set i (x + 1)).sum = xs.sum + 1
  | [], _, _, h => by simp at h
  | y :: xs, 0, x, h => by
    simp at h
    subst h
    simp only [List.set_cons_zero, List.sum_cons]
    omega
  | y :: xs, i + 1, x, h => by
    have := sum_set (xs := xs) (i := i) (x := x) (by simpa using h)
    simp only [List.set_cons_succ, List.sum_cons]
    omega
theorem cntL_nil {n : Nat} : cntL n [] = List.replicate n 0 := by
  unfold cntL
  refine List.ext_getElem? fun i => ?_
  rw [List.getElem?_map, List.getElem?_replicate]
  by_cases hi : i < n
  · rw [List.getElem?_range hi, if_pos hi]
    rfl
  · rw [List.getElem?_eq_none (by simp; omega), if_neg hi] <;> rfl
/-- the i-th goes on when it may -/
structure Line (rs : List Row) (line : List Nat) : Prop where
  rd : ∀ i h, line[i]? = some h → Ready rs (cnt (line.take i)) h
theorem Ready.lt {rs : List Row} {c : Nat → Nat} {h : Nat} (r : Ready rs c h) : h < rs.length := by
  have h1 := r.1
  unfold sz at h1
  by_cases z : h < rs.length
  · exact z
  · rw [List.getD_eq_getElem?_getD, List.getElem?_eq_none (by omega)] at h1
    simp at h1
theorem Line.snoc {rs : List Row} {line : List Nat} {h : Nat} (l : Line rs line) (r : Ready rs (cnt line) h) : Line rs (line ++ [h]) := ⟨fun i k hi => by
  by_cases z : i < line.length
  · rw [List.getElem?_append_left z] at hi
    rw [List.take_append_of_le_length (Nat.le_of_lt z)]
    exact l.rd i k hi
  · by_cases y : i = line.length
    · subst y
      rw [List.getElem?_append_right (Nat.le_refl _), Nat.sub_self] at hi
      have hk : h = k := by simpa using hi
      subst hk
      rw [List.take_append_of_le_length (Nat.le_refl _), List.take_length]
      exact r
    · rw [List.getElem?_eq_none (by rw [List.length_append, List.length_singleton]; omega)] at hi
      cases hi⟩
theorem Line.sum {rs : List Row} : ∀ {line : List Nat}, Line rs line → (cntL rs.length line).sum = line.length ∧ ∀ h, cnt line h ≤ sz rs h := by
  intro line
  induction hl : line.length generalizing line with
  | zero =>
    intro _
    have : line = [] := List.eq_nil_of_length_eq_zero hl
    subst this
    rw [cntL_nil]
    exact ⟨by simp, fun h => Nat.zero_le _⟩
  | succ n ih =>
    intro l
    have ne : line ≠ [] := fun e => by rw [e] at hl; cases hl
    have e0 := List.dropLast_concat_getLast ne
    have hd : line.dropLast.length = n := by rw [List.length_dropLast, hl]; rfl
    have l' : Line rs line.dropLast := ⟨fun i h hi => by
      have hi' := (List.getElem?_eq_some_iff.mp hi).1
      have := l.rd i h (by rw [← e0, List.getElem?_append_left hi']; exact hi)
      rw [← e0, List.take_append_of_le_length (Nat.le_of_lt hi')] at this
      exact this⟩
    obtain ⟨h1, h2⟩ := ih hd l'
    have r := l.rd n (line.getLast ne) (by rw [List.getLast_eq_getElem, List.getElem?_eq_getElem (by omega)]; congr 1; congr 1; omega)
    have r' : Ready rs (cnt line.dropLast) (line.getLast ne) := by
      have e2 : line.take n = line.dropLast := by rw [List.dropLast_eq_take, hl]; rfl
      rw [e2] at r
      exact r
    refine ⟨?_, fun h => ?_⟩
    · rw [← e0, cntL_snoc, sum_set (cntL_at r'.lt), h1]
    · rw [← e0, cnt_snoc]
      have := h2 h
      by_cases z : h = line.getLast ne
      · rw [if_pos z, z]
        exact r'.1
      · rw [if_neg z]
        exact this
theorem sum_le_of : ∀ {xs ys : List Nat}, xs.length = ys.length → (∀ (i x y : Nat), xs[i]? = some x → ys[i]? = some y → y ≤ x) → ys.sum ≤ xs.sum
  | [], [], _, _ => Nat.le_refl _
  | x :: xs, y :: ys, hl, h => by
    have h0 := h 0 x y rfl rfl
    have h1 := sum_le_of (xs := xs) (ys := ys) (by simpa using hl) fun i a b ha hb => h (i + 1) a b (by simpa using ha) (by simpa using hb)
    simp only [List.sum_cons]
    omega
  | [], _ :: _, hl, _ => by cases hl
  | _ :: _, [], hl, _ => by cases hl
theorem sizes_at {rs : List Row} {h : Nat} (hh : h < rs.length) : (sizes rs)[h]? = some (sz rs h) := by
  unfold sizes sz
  rw [List.getElem?_map, List.getElem?_eq_getElem hh, List.getD_eq_getElem?_getD, List.getElem?_eq_getElem hh] <;> rfl
/-- a line that is not whole goes on -/
theorem Line.go {rs : List Row} {line : List Nat} (g : Prog rs) (l : Line rs line) (hlt : line.length < (sizes rs).sum) : ∃ h, Ready rs (cnt line) h := by
  refine g _ l.sum.2 ?_
  by_cases z : ∃ h, cnt line h < sz rs h
  · exact z
  · have all : ∀ h, sz rs h ≤ cnt line h := fun h => by
      by_cases y : cnt line h < sz rs h
      · exact absurd ⟨h, y⟩ z
      · omega
    have := sum_le_of (xs := cntL rs.length line) (ys := sizes rs) (by rw [cntL_len]; unfold sizes; simp) fun i x y hx hy => by
      have hi : i < rs.length := by
        have := (List.getElem?_eq_some_iff.mp hx).1
        rw [cntL_len] at this
        exact this
      rw [cntL_at hi] at hx
      rw [sizes_at hi] at hy
      cases hx
      cases hy
      exact all i
    rw [l.sum.1] at this
    omega
theorem evs_len_sum : ∀ {rs : List Row} {k : Nat}, (evs k rs).length = (sizes rs).sum
  | [], _ => rfl
  | r :: rs, k => by
    show (((List.range r.length).map fun p => (k, p)) ++ evs (k + 1) rs).length = _
    rw [List.length_append, List.length_map, List.length_range, evs_len_sum]
    rfl
section
variable {F B : Hp} {Γ : Gam} {M : List Mut1} {ta tb tc te td ty : TE} {tt : TT} {t u : Ty} {ts us : List Ty} {K : PySem.W.Frag} {p p2 : Addr} {m m2 : MTy} {P : L2.St → Hp → Prop}
theorem Hs.sub {H G : Hp} {M' : List Mut1} (s : Hs F B M H G) (h : M'.Sublist M) : Hs F B M' H G := ⟨s.er, s.eb, s.fr, fun a n z => s.mm a n (h.subset z), s.nd.sublist (h.map _)⟩
/-- some of ours forgotten -/
theorem n_sub (M' : List Mut1) (h : M'.Sublist M) (k : N P F B Γ M') : N P F B Γ M := fun σ H G s g => k σ H G (s.sub h) g
/-- a dict with tuples as keys, looked at -/
def tDT (kvs : List (List Key × Ty)) : Ty := ⟨fun v G => ∃ a vs, v = .ref a ∧ G a = some (.dT vs) ∧ AtD kvs vs G, fun e h => let ⟨a, vs, e1, e2, e3⟩ := h; ⟨a, vs, e1, e _ _ e2, e3.mono e⟩⟩
theorem e_dgetF {kvs : List (List Key × Ty)} {k : List Key} (hd : K89.E td Γ M (tDT kvs)) (hy : K89.E ty Γ M (tT (k.map fun z => tV (kV z)))) (hk : dLook k kvs = some t) : K89.E (tDGet td ty) Γ M t := fun F B σ H G s g Q q =>
  hd F B σ H G s g _ fun v1 H1 G1 s1 e1 a1 => hy F B σ H1 G1 s1 (g.mono e1) _ fun v2 H2 G2 s2 e2 a2 => by
    obtain ⟨a, vs, rfl, ea, av⟩ := a1
    obtain ⟨b, ws, rfl, eb, aw⟩ := a2
    have ew := tup_key aw
    subst ew
    rcases atD_look (k := k) av with ⟨e, _⟩ | ⟨t', v, e, ev, tv⟩
    · rw [hk] at e; cases e
    · rw [hk] at e
      cases e
      exact ⟨a, v, rfl, .inr ⟨vs, k, b, .inl (s2.er a _ (e2 a _ ea)), rfl, s2.er b _ eb, ev.symm⟩, q v H2 G2 s2 (e1.trans e2) (t.mono e2 tv)⟩
/-- two of ours, looked at: a list and a dict with tuples as keys; the new object is flat -/
theorem EN.focus2 {i i2 : Nat} {M0 : List Mut1} {kvs : List (List Key × Ty)} (hM : M = (p, mL ts) :: (p2, mDT kvs) :: M0) (hp : Γ[i]? = some (some (tR p))) (hp2 : Γ[i2]? = some (some (tR p2))) (hne : i ≠ i2) (h : EN te ((Γ.set i (some (tL ts))).set i2 (some (tDT kvs))) [] m) (ht : FlatM m) : EN te Γ M m := by
  subst hM
  intro F B σ H G s g Q q
  obtain ⟨f1, g1, o, h3, vs, h4, h5⟩ := s.mm p _ (List.mem_cons_self ..)
  obtain ⟨f2, g2, o2, k3, ws, k4, k5⟩ := s.mm p2 _ (List.mem_cons_of_mem _ (List.mem_cons_self ..))
  subst h4 k4
  have pne : p ≠ p2 := by
    have nd := s.nd
    rw [List.map_cons, List.map_cons] at nd
    intro e
    exact (List.nodup_cons.mp nd).1 (by rw [e]; exact List.mem_cons_self ..)
  obtain ⟨s1, e1⟩ := s.frz0 h3
  obtain ⟨s2, e2⟩ := s1.frz0 k3
  have e12 := e1.trans e2
  obtain ⟨w, w1, w2⟩ := g.get hp
  obtain ⟨x, x1, x2⟩ := g.get hp2
  have w2' : w = .ref p := w2
  have x2' : x = .ref p2 := x2
  subst w2' x2'
  have gg : Sl ((Γ.set i (some (tL ts))).set i2 (some (tDT kvs))) σ (upd (upd G p (.lst vs)) p2 (.dT ws)) := by
    refine Sl.ty (Sl.ty (g.mono e12) w1 ?_) x1 ?_
    · exact ⟨p, vs, rfl, e2 _ _ upd_same, h5.mono e12⟩
    · exact ⟨p2, ws, rfl, upd_same, k5.mono e12⟩
  refine h _ B σ H _ s2.hideAll gg Q fun r H' G' s' e' => ?_
  obtain ⟨y1, y2, o', y3, y4⟩ := s'.mm r m (List.mem_cons_self ..)
  have st := s'.tail
  have q1 : G' p = some (.lst vs) := e' p _ (e2 _ _ upd_same)
  have q2 : G' p2 = some (.dT ws) := e' p2 _ upd_same
  have rp : r ≠ p := fun e => by subst e; rw [q1] at y2; cases y2
  have rp2 : r ≠ p2 := fun e => by subst e; rw [q2] at y2; cases y2
  have eG : Er G (rem (rem G' p) p2) := ((e12.trans e').toRem g1).toRem g2
  have rM : r ∉ M0.map (·.1) := fun z => by
    obtain ⟨⟨b, n⟩, z1, z2⟩ := List.mem_map.mp z
    have z3 : b = r := z2
    subst z3
    obtain ⟨_, _, o3, y5, _⟩ := s.mm _ n (List.mem_cons_of_mem _ (List.mem_cons_of_mem _ z1))
    rw [hid_in z1, y5] at y1
    cases y1
  have Fr : F r = none := by
    cases w : F r with
    | none => rfl
    | some u =>
      rw [hid_out s2 w] at y1
      cases y1
  refine q r H' (rem (rem G' p) p2) ⟨(st.er.rem p).rem p2, s.eb.trans eG, fun a u z => ?_, fun a n z => ?_, ?_⟩ eG
  · obtain ⟨z1, z2⟩ := st.fr a u (hid_out s2 z)
    have n1 : a ≠ p := fun e => by rw [e, f1] at z; cases z
    have n2 : a ≠ p2 := fun e => by rw [e, f2] at z; cases z
    rw [rem_ne n2, rem_ne n1]
    exact ⟨z1, z2⟩
  · rcases List.mem_cons.mp z with z | z
    · cases z
      exact ⟨Fr, by rw [rem_ne rp2, rem_ne rp]; exact y2, o', y3, ht _ _ _ y4⟩
    · rcases List.mem_cons.mp z with z | z
      · cases z
        exact ⟨f1, by rw [rem_ne pne, rem_same], _, st.er _ _ q1, vs, rfl, h5.mono eG⟩
      · rcases List.mem_cons.mp z with z | z
        · cases z
          exact ⟨f2, rem_same, _, st.er _ _ q2, ws, rfl, k5.mono eG⟩
        · obtain ⟨a1, a2, o3, a3, a4⟩ := s.mm a n (List.mem_cons_of_mem _ (List.mem_cons_of_mem _ z))
          obtain ⟨z1, z2⟩ := st.fr a o3 (by rw [hid_in z]; exact a3)
          have nd := s.nd
          rw [List.map_cons, List.map_cons] at nd
          have n1 : a ≠ p := fun e => (List.nodup_cons.mp nd).1 (by rw [← e]; exact List.mem_cons_of_mem _ (List.mem_map.mpr ⟨_, z, rfl⟩))
          have n2 : a ≠ p2 := fun e => (List.nodup_cons.mp (List.nodup_cons.mp nd).2).1 (by rw [← e]; exact List.mem_map.mpr ⟨_, z, rfl⟩)
          exact ⟨a1, by rw [rem_ne n2, rem_ne n1]; exact z2, o3, z1, n.mono eG a4⟩
  · have nd := s.nd
    rw [List.map_cons, List.map_cons] at nd ⊢
    refine List.nodup_cons.mpr ⟨fun z => ?_, nd⟩
    rcases List.mem_cons.mp z with z | z
    · exact rp z
    · rcases List.mem_cons.mp z with z | z
      · exact rp2 z
      · exact rM z
end
end K89
set_option Elab.async false
set_option linter.all false
set_option maxRecDepth 100000
set_option maxHeartbeats 4000000
/-! K89T: t * k of a tuple, k from 1; pairs in lists; promises about an argument that may change. -/
namespace K89
open PySem PySem.Spec PyProof.Rows L2
theorem tuple_one (l : Addr) (its : Array Value) (n : Nat) (dd : Option Addr) (sl : Array (Option Value)) (u : Tok) : Meets (Builtin.«tuple.__mul__» ⟨[.ref l, .int 1 u], []⟩) (fun _ R s => s.heap.get? l = some { cls := .type "tuple", dict := dd, data := .seq its n, slots := sl } ∧ R (.ok (.ret (.ref l))) s) :=
  .of_wp fun prog w A R s h => by
    obtain ⟨hp, g, d, tk, os⟩ := s
    obtain ⟨hl, h⟩ := h
    have f1 := AutoSeq1.idx_int
    have c1 : (its.isEmpty || (1 : Int) == 1) = true := by rw [Bool.or_eq_true]; exact .inr rfl
    wp_walk using wpAny_loadPart' hl
    repeat (first
      | (refine wpAny_ite_false (by decide) ?_; wp_walk using wpAny_loadPart' hl)
      | (refine wpAny_ite_true (by rw [c1]) ?_; wp_walk using wpAny_loadPart' hl))
    exact ⟨_, rfl, h⟩
/-- t * k, k = 1: the same tuple -/
def rRepX (K : PySem.W.Frag) : R2 := fun x y H Q => ∃ l k xs, x = .ref l ∧ y = .int k ∧ SqT K H l xs ∧ xs ≠ [] ∧ k ≤ 1000 ∧ xs.length ≤ 1000 ∧ 1 ≤ k ∧ (k = 1 → Q (.ref l) H) ∧ (2 ≤ k → ∀ p, H p = none → Q (.ref p) (upd H p (.tup (List.replicate k.toNat xs).flatten)))
theorem op_repX {X : Cx} : OpR X (binaryOp .Mult) (rRepX X.K) := by
  intro pins s σ H x y v u Q I rx ry h
  obtain ⟨l, k, xs, ex, ey, hT, hne, h1, hz, h2, q1, q2⟩ := h
  by_cases z : 2 ≤ k
  · exact op_repT pins s σ H x y v u Q I rx ry ⟨l, k, xs, ex, ey, hT, hne, z, h1, hz, q2 z⟩
  · have ek : k = 1 := by omega
    subst ek ex ey
    cases rx
    obtain ⟨t, rfl⟩ := ry
    obtain ⟨its, r, ⟨⟨cls, dd, data, sl⟩, ho, hc, n, hd⟩, hs⟩ := I.tuple hT
    simp only at hc hd
    subst hc hd
    refine wpAny_binaryOp_repeat_ref (T := "tuple") (U := "int") (by decide) ⟨_, ho, rfl⟩ (fun s' => typeIs_int s' 1 t) noFill_tuple_mul F.fills_int_mul F.slot_int_rmul repeat_tuple F.slot_int_index.lookup
      (call_meets F.slot_int_rmul (typeIs_int s 1 t) F.entry_int_rmul (F.args_int_rmul_2 _ _) (int_rmul_tuple 1 t l its.toArray n dd sl) ⟨ho, rfl, ⟨_, ho, rfl⟩, call_meets F.slot_tuple_mul ⟨_, ho, rfl⟩ F.entry_tuple_mul (F.args_tuple_mul_2 _ _) (tuple_one l its.toArray n dd sl t) ⟨ho, ?_⟩⟩)
    exact ⟨.ref l, H, I, rfl, q1 rfl⟩
/-- a pair of Nat's as data -/
def prDt (x : Nat × Nat) : PyData := .tuple [.int x.1, .int x.2]
theorem prDt_eqv (x y : Nat × Nat) : PyData.eqv (prDt x) (prDt y) = decide (x = y) := by
  obtain ⟨a, b⟩ := x
  obtain ⟨c, d⟩ := y
  have e : PyData.eqv (prDt (a, b)) (prDt (c, d)) = (((a : Int) == (c : Int)) && (((b : Int) == (d : Int)) && true)) := by simp only [prDt, PyData.eqv, PyData.eqvAll]
  rw [e, Bool.and_true]
  by_cases h : ((a, b) : Nat × Nat) = (c, d)
  · cases h
    simp
  · rw [decide_eq_false h]
    by_cases h1 : a = c
    · have h2 : b ≠ d := fun q => h (by rw [h1, q])
      have : ((b : Int) == (d : Int)) = false := by simp; omega
      rw [this, Bool.and_false]
    · have : ((a : Int) == (c : Int)) = false := by simp; omega
      rw [this, Bool.false_and]
theorem prDt_shaped (x : Nat × Nat) : SeqAt.shaped (prDt x) = true := by
  show ((prDt x).canLay0 && decide ((prDt x).depth ≤ 64)) = true
  simp [prDt, PyData.canLay0, PyData.canLayAll0, PyData.depth, PyData.depthAll]
theorem prDts_shaped : ∀ xs : List (Nat × Nat), SeqAt.shaped (.list (xs.map prDt)) = true := fun xs => by
  have h1 : ∀ xs : List (Nat × Nat), PyData.canLayAll0 (xs.map prDt) = true ∧ PyData.depthAll (xs.map prDt) ≤ 4 := by
    intro xs
    induction xs with
    | nil => exact ⟨rfl, by decide⟩
    | cons x xs ih =>
      refine ⟨?_, ?_⟩
      · simp only [List.map_cons, PyData.canLayAll0]
        rw [ih.1]
        simp [prDt, PyData.canLay0, PyData.canLayAll0]
      · simp only [List.map_cons, PyData.depthAll]
        have : (prDt x).depth ≤ 4 := by simp [prDt, PyData.depth, PyData.depthAll]
        have := ih.2
        omega
  show ((PyData.list (xs.map prDt)).canLay0 && decide ((PyData.list (xs.map prDt)).depth ≤ 64)) = true
  rw [Bool.and_eq_true]
  refine ⟨by simp only [PyData.canLay0]; exact (h1 xs).1, decide_eq_true ?_⟩
  simp only [PyData.depth]
  have := (h1 xs).2
  omega
section
variable {F B : Hp} {Γ : Gam} {M M' : List Mut1} {ta tb tc te : TE} {tas : TA} {tt : TT} {t u : Ty} {ts us : List Ty} {K : PySem.W.Frag} {p C : Addr} {m m' : MTy} {nx bk ct : L2.St → Hp → Prop} {rt : VK} {s1 s2 : TS}
theorem room65 {A : Around} {k : Nat} (hr : Room k A) : A.units + 65 < cLine := by have := hr.un; omega
theorem e_repX {n : Nat} {x : Ty} (ha : K89.E ta Γ M (tT [x])) (hb : K89.E tb Γ M (tn n)) (h1 : 1 ≤ n) (h2 : n ≤ 1000) : K89.E (tOp (rRepX K) ta tb) Γ M (tT (List.replicate n x)) := fun F B σ H G s g Q q =>
  ha F B σ H G s g _ fun v1 H1 G1 s1 e1 a1 => hb F B σ H1 G1 s1 (g.mono e1) _ fun v2 H2 G2 s2 e2 a2 => by
    obtain ⟨a, vs, rfl, ea, av⟩ := a1
    obtain ⟨w, rfl, tw⟩ := at1 av
    refine ⟨a, (n : Int), [w], rfl, a2, SqT.of (s2.er a _ (e2 a _ ea)), List.cons_ne_nil _ _, by omega, by show 1 ≤ 1000; decide, by omega, fun e => ?_, fun _ p hp => ?_⟩
    · have en : n = 1 := by omega
      subst en
      exact q _ H2 G2 s2 (e1.trans e2) ⟨a, [w], rfl, e2 a _ ea, av.mono e2⟩
    · have e0 : ((n : Int)).toNat = n := by omega
      have ef : ∀ k, (List.replicate k [w]).flatten = List.replicate k w := by
        intro k
        induction k with
        | zero => rfl
        | succ k ih => rw [List.replicate_succ, List.replicate_succ, List.flatten_cons, ih] <;> rfl
      rw [e0, ef]
      obtain ⟨s3, e3⟩ := s2.new (o := .tup (List.replicate n w)) hp
      exact q _ _ _ s3 ((e1.trans e2).trans e3) ⟨p, _, rfl, upd_same, At.replicate (x.mono (e2.trans e3) tw) n⟩
theorem dp_pr {H G : Hp} (e : Er G H) {x : Nat × Nat} {v : V} (h : (tPr x).at_ v G) : Dp K H v (prDt x) := by
  obtain ⟨a, vs, rfl, ea, av⟩ := h
  obtain ⟨y, z, rfl, hy, hz⟩ := at2 av
  have hy' : y = .int (x.1 : Int) := hy
  have hz' : z = .int (x.2 : Int) := hz
  subst hy' hz'
  exact .tup (SqT.of (e _ _ ea)) (.cons (.int _) (.cons (.int _) .nil))
theorem dp_prs {H G : Hp} (e : Er G H) : ∀ {xs : List (Nat × Nat)} {vs : List V}, At (xs.map tPr) vs G → DpAll K H vs (xs.map prDt)
  | [], [], _ => .nil
  | x :: xs, v :: vs, h => .cons (dp_pr e h.1) (dp_prs e h.2)
  | [], _ :: _, h => h.elim
  | _ :: _, [], h => h.elim
theorem e_notInP {x : Nat × Nat} {ys : List (Nat × Nat)} (ha : K89.E ta Γ M (tPr x)) (hb : K89.E tb Γ M (tL (ys.map tPr))) : K89.E (tOp (rNotInD K) ta tb) Γ M (tB (!decide (x ∈ ys))) := fun F B σ H G s g Q q =>
  ha F B σ H G s g _ fun v1 H1 G1 s1 e1 a1 => hb F B σ H1 G1 s1 (g.mono e1) _ fun v2 H2 G2 s2 e2 a2 => by
    obtain ⟨a, vs, rfl, ea, av⟩ := a2
    refine ⟨prDt x, ys.map prDt, dp_pr s2.er ((tPr x).mono e2 a1), .lst (SqL.of (s2.er _ _ ea)) (dp_prs s2.er av), prDt_shaped x, prDts_shaped ys, q _ H2 G2 s2 (e1.trans e2) ?_⟩
    show V.bl _ = V.bl _
    congr 2
    rw [List.any_map]
    refine Bool.eq_iff_iff.mpr ?_
    rw [List.any_eq_true, decide_eq_true_iff]
    constructor
    · rintro ⟨y, hy, h⟩
      have h' : PyData.eqv (prDt y) (prDt x) = true := h
      rw [prDt_eqv, decide_eq_true_iff] at h'
      exact h' ▸ hy
    · intro h
      refine ⟨x, h, ?_⟩
      show PyData.eqv (prDt x) (prDt x) = true
      rw [prDt_eqv, decide_eq_true_iff]

/-! ### an argument that may change -/
/-- an evaluation that changes one of ours -/
def EMut (te : TE) (Γ : Gam) (M M' : List Mut1) (t : Ty) : Prop := ∀ F B σ H G, Hs F B M H G → Sl Γ σ G → ∀ Q : VK, (∀ v H' G', Hs F B M' H' G' → Er G G' → t.at_ v G' → Q v H') → te σ H Q
def RetP (F B : Hp) (p : Addr) (t : Ty) (m : MTy) (Q : VK) : Prop := ∀ v H G o, Er B G → Er G H → (∀ a o, F a = some o → H a = some o ∧ G a = none) → H p = some o → G p = none → m.at_ o G → t.at_ v G → Q v H
def spM {α : Type} (as : α → Addr → List Ty) (m0 m1 : α → MTy) (r : α → Ty) : Sp := fun vs H Q _ => ∃ (x : α) (p : Addr) (G : Hp) (o : HO), Er G H ∧ At (as x p) vs G ∧ H p = some o ∧ G p = none ∧ (m0 x).at_ o G ∧ RetP (rem (frm G H) p) G p (r x) (m1 x) Q
/-- the call's side -/
theorem sp_M {α : Type} {as : α → Addr → List Ty} {m0 m1 : α → MTy} {r : α → Ty} (x : α) {F B H G : Hp} (s : Hs F B M H G) {j : Nat} (hj : M[j]? = some (p, m0 x)) {vs : List V} (a : At (as x p) vs G) {Q : VK} {E0 : XK}
    (q : ∀ v H' G', Hs F B (M.set j (p, m1 x)) H' G' → Er G G' → (r x).at_ v G' → Q v H') : spM as m0 m1 r vs H Q E0 := by
  obtain ⟨h1, h2, o, h3, h4⟩ := s.mm p _ (List.mem_of_getElem? hj)
  refine ⟨x, p, G, o, s.er, a, h3, h2, h4, fun v H' G' o' e1 e2 f hp gp mo tv => q v H' G' ?_ e1 tv⟩
  have fr' : ∀ b u, b ≠ p → G b = none → H b = some u → H' b = some u ∧ G' b = none := fun b u ne g1 g2 => f b u (by rw [rem_ne ne]; exact frm_of g1 g2)
  have hk : (M.set j (p, m1 x)).map (·.1) = M.map (·.1) := by
    rw [List.map_set]
    refine List.ext_getElem? fun i => ?_
    rw [List.getElem?_set]
    by_cases z : j = i
    · subst z
      rw [if_pos rfl, List.getElem?_map, hj]
      split
      · rfl
      · rename_i hl
        have := (List.getElem?_eq_some_iff.mp hj).1
        simp at hl
        omega
    · rw [if_neg z]
  refine ⟨e2, s.eb.trans e1, fun b u z => ?_, fun b n z => ?_, by rw [hk]; exact s.nd⟩
  · obtain ⟨k1, k2⟩ := s.fr b u z
    exact fr' b u (fun e => by rw [e, h1] at z; cases z) k2 k1
  · obtain ⟨i, hi⟩ := List.getElem?_of_mem z
    rw [List.getElem?_set] at hi
    by_cases zi : j = i
    · rw [if_pos zi] at hi
      have hi2 : (p, m1 x) = (b, n) := by
        split at hi
        · exact Option.some.inj hi
        · cases hi
      cases hi2
      exact ⟨h1, gp, o', hp, mo⟩
    · rw [if_neg zi] at hi
      obtain ⟨k1, k2, o2, k3, k4⟩ := s.mm b n (List.mem_of_getElem? hi)
      have ne : b ≠ p := fun e => by
        subst e
        have l1 : (M.map (·.1))[i]? = some b := by rw [List.getElem?_map, hi]; rfl
        have l2 : (M.map (·.1))[j]? = some b := by rw [List.getElem?_map, hj]; rfl
        obtain ⟨b1, c1⟩ := List.getElem?_eq_some_iff.mp l1
        obtain ⟨b2, c2⟩ := List.getElem?_eq_some_iff.mp l2
        exact zi ((List.getElem_inj s.nd).mp (c2.trans c1.symm))
      obtain ⟨z1, z2⟩ := fr' b o2 ne k2 k3
      exact ⟨k1, z2, o2, z1, n.mono e1 k4⟩
theorem e_fM {α : Type} {as : α → Addr → List Ty} {m0 m1 : α → MTy} {r : α → Ty} {E0 : XK} {j : Nat} (x : α) (hj : M[j]? = some (p, m0 x)) (h : EA tas Γ M (as x p)) (e : r x = t := by rfl) : EMut (tCall (spM as m0 m1 r) [] E0 tas) Γ M (M.set j (p, m1 x)) t := fun F B σ H G s g Q q =>
  h F B σ H G s g _ fun vs H1 G1 s1 e1 a1 => by
    rw [List.append_nil]
    refine sp_M x s1 hj a1 fun v H' G' s' e' a' => q v H' G' s' (e1.trans e') ?_
    rw [← e]
    exact a'
/-- .. that stays what it was -/
theorem set_same {j : Nat} {q : Mut1} (hj : M[j]? = some q) : M.set j q = M := by
  refine List.ext_getElem? fun i => ?_
  rw [List.getElem?_set]
  by_cases z : j = i
  · subst z
    rw [if_pos rfl, hj]
    exact if_pos (List.getElem?_eq_some_iff.mp hj).1
  · rw [if_neg z]
theorem e_fS {α : Type} {as : α → Addr → List Ty} {m0 : α → MTy} {r : α → Ty} {E0 : XK} {j : Nat} (x : α) (hj : M[j]? = some (p, m0 x)) (h : EA tas Γ M (as x p)) (e : r x = t := by rfl) : K89.E (tCall (spM as m0 m0 r) [] E0 tas) Γ M t := by
  have k := e_fM (m1 := m0) (E0 := E0) x hj h e
  rw [set_same hj] at k
  exact k
theorem n_ifNotM (h : EMut te Γ M M' (tB true)) (k : N (s2 ⟨nx, rt, bk, ct⟩) F B Γ M') : N (tIfS (tNot (L2.tB te)) s1 s2 ⟨nx, rt, bk, ct⟩) F B Γ M := fun σ H G s g =>
  h F B σ H G s g _ fun v H' G' s' e' a => ⟨true, a, k σ H' G' s' (g.mono e')⟩
def BodyM {α : Type} (t : TS) (n : Nat) (as : α → Addr → List Ty) (m0 m1 : α → MTy) (r : α → Ty) : Prop := ∀ (x : α) (p : Addr) (F B : Hp) (Q : VK), RetP F B p (r x) (m1 x) Q → N (t { nx := fun _ H' => Q .non H', rt := Q }) F B ((as x p).map some ++ List.replicate n none) [(p, m0 x)]
theorem n_retP (h : K89.E te Γ [(p, m)] t) (k : RetP F B p t m rt) : N (tRet te ⟨nx, rt, bk, ct⟩) F B Γ [(p, m)] := fun σ H G s g => h F B σ H G s g _ fun v H' G' s' e' a => by
  obtain ⟨_, h2, o, h3, h4⟩ := s'.mm p m (List.mem_cons_self ..)
  exact k v H' G' o s'.eb s'.er s'.fr h3 h2 h4 a
/-- a def's end without return -/
theorem n_endP {Q : VK} (k : RetP F B p tN m Q) : N (fun _ H' => Q .non H') F B Γ [(p, m)] := fun σ H G s g => by
  obtain ⟨_, h2, o, h3, h4⟩ := s.mm p m (List.mem_cons_self ..)
  exact k _ H G o s.eb s.er s.fr h3 h2 h4 rfl
theorem body_runM {α : Type} {t : TS} {n : Nat} {as : α → Addr → List Ty} {m0 m1 : α → MTy} {r : α → Ty} (b : BodyM t n as m0 m1 r) {N ps : List Str} {vs : List V} {H : Hp} {Q : VK} {E : XK} (hN : N.length = ps.length + n) (hl : ∀ x p, (as x p).length = ps.length) (h : spM as m0 m1 r vs H Q E) : t { nx := fun _ H' => Q .non H', rt := Q } (L2.start N vs) H := by
  obtain ⟨x, p, G, o, e, a, h1, h2, h3, q⟩ := h
  have e1 : L2.start N vs = vs.map some ++ List.replicate n none := by
    unfold L2.start
    rw [hN, a.length, hl, Nat.add_sub_cancel_left]
  rw [e1]
  refine b x p _ G Q q _ H G ⟨e, Er.refl G, fun b u z => ?_, fun b n z => ?_, by simp⟩ (Sl.start n a)
  · have ne : b ≠ p := fun e => by rw [e, rem_same] at z; cases z
    rw [rem_ne ne] at z
    exact (of_frm z).symm
  · have z' := List.mem_singleton.mp z
    cases z'
    exact ⟨rem_same, h2, o, h1, h3⟩
theorem Cal.mkM' {α : Type} {P : Program} {w : World} {mg : Str → Option Value} {as : α → Addr → List Ty} {m0 m1 : α → MTy} {r : α → Ty} {x : Str} {N ps : List Str} {k n : Nat} (T : En K mg) (i j : Nat) {d : He.DefD} (hd : fn[i]? = some d) (hg : fa[j]? = some (.glo x)) (h1 : d.at_ = (x, none)) (h2 : d.dfl = []) (h3 : d.kwd = []) (S : FnScope N ps d.scope)
    (hN : N.length = ps.length + n) (hl : ∀ y p, (as y p).length = ps.length)
    (hb : ∀ (kV doc pm : Value) (an : Option Addr) (cdv ct : Value) (us : List Value), us.length = ps.length → bindArgs (PySem.W.fnOf d.name d.qual d.params d.body d.scope .none kV doc pm an cdv ct) ⟨us, []⟩ = pure (ps.zip us))
    (hbody : ∀ (base : Heap) (cdv : Value) (A : Around) (outer : List Env) (s : Shared) (H : Hp) (E : XK), Room k (A.deeper (envOfC d.qual d.scope s.heap.objs.size (He.ga K x) cdv)) →
      ∃ t, PSs (cxOf CX0 P w K mg base N d.qual d.scope (He.ga K x) cdv A outer s H E).nox d.body t ∧ BodyM t n as m0 m1 r) : Cal P w K mg x (k + 1) ps (spM as m0 m1 r) := by
  obtain ⟨fd, F⟩ := T.defD i hd
  have e1 : d.dvs K = [] := by unfold He.DefD.dvs; rw [h2]; rfl
  have e2 : d.kws K = [] := by unfold He.DefD.kws; rw [h3]; rfl
  have e3 : He.fAd K d.at_ = He.ga K x := by rw [h1]; rfl
  rw [e1, e2, e3] at F
  refine ⟨_, fd, T.glo j hg, F.kp, ⟨F.bindsN hb, inK_of F⟩, fun base => F.ok S (fun vs H Q E h => ?_) fun cdv A outer s H vs Q E hr h => ?_⟩
  · obtain ⟨y, p, G, o, _, a, _⟩ := h
    rw [a.length, hl]
  · obtain ⟨t, h4, h5⟩ := hbody base cdv A outer s H E hr
    exact ⟨t, h4.nox, body_runM h5 hN hl h⟩
theorem CalM.mkM' {α : Type} {P : Program} {w : World} {mg : Str → Option Value} {as : α → Addr → List Ty} {m0 m1 : α → MTy} {r : α → Ty} {x : Str} {N ps : List Str} {k n : Nat} (T : En K mg) (i : Nat) {d : He.DefD} (hd : fn[i]? = some d) (h1 : d.at_ = (("Picture" : Str), some x)) (h2 : d.dfl = []) (h3 : d.kwd = []) (S : FnScope N ps d.scope)
    (hN : N.length = ps.length + n) (hl : ∀ y p, (as y p).length = ps.length)
    (hb : ∀ (kV doc pm : Value) (an : Option Addr) (cdv ct : Value) (us : List Value), us.length = ps.length → bindArgs (PySem.W.fnOf d.name d.qual d.params d.body d.scope .none kV doc pm an cdv ct) ⟨us, []⟩ = pure (ps.zip us))
    (hbody : ∀ (base : Heap) (cdv : Value) (A : Around) (outer : List Env) (s : Shared) (H : Hp) (E : XK), Room k (A.deeper (envOfC d.qual d.scope s.heap.objs.size (He.ma K (cP K) x) cdv)) →
      ∃ t, PSs (cxOf CX0 P w K mg base N d.qual d.scope (He.ma K (cP K) x) cdv A outer s H E).nox d.body t ∧ BodyM t n as m0 m1 r) : CalM P w K mg (He.ma K (cP K) x) (k + 1) ps (spM as m0 m1 r) := by
  obtain ⟨fd, F⟩ := T.defD i hd
  have e1 : d.dvs K = [] := by unfold He.DefD.dvs; rw [h2]; rfl
  have e2 : d.kws K = [] := by unfold He.DefD.kws; rw [h3]; rfl
  have e3 : He.fAd K d.at_ = He.ma K (cP K) x := by rw [h1]; rfl
  rw [e1, e2, e3] at F
  refine ⟨fd, F.bindsN hb, fun base => F.ok S (fun vs H Q E h => ?_) fun cdv A outer s H vs Q E hr h => ?_⟩
  · obtain ⟨y, p, G, o, _, a, _⟩ := h
    rw [a.length, hl]
  · obtain ⟨t, h4, h5⟩ := hbody base cdv A outer s H E hr
    exact ⟨t, h4.nox, body_runM h5 hN hl h⟩
/-- C(e, ..) -/
theorem en_make {α : Type} {as : α → Addr → List Ty} {m1 : α → MTy} {E0 : XK} (x : α) (h : EA tas Γ M ts) (hx : ∀ p, as x p = tR p :: ts) : EN (tMake C (spM as (fun _ => mO C []) m1 fun _ => tN) [] E0 tas) Γ M (m1 x) := fun F B σ H G s g Q q =>
  h F B σ H G s g _ fun vs H1 G1 s1 e1 a1 => fun o dx ho hdx ne => by
    rw [List.append_nil]
    obtain ⟨s2, e2⟩ := s1.new (o := .own o) hdx
    have ho2 : upd H1 dx (.own o) o = none := by rw [upd_ne ne.symm]; exact ho
    have s3 := s2.newM (m := mO C []) (o := .ins C dx []) ho2 ⟨dx, [], rfl, trivial⟩
    refine sp_M (m1 := m1) (r := fun _ => tN) x s3 (j := 0) rfl (by rw [hx]; exact ⟨rfl, a1.mono e2⟩) fun v H' G' s' e' a' => ⟨a', q o H' G' s' ((e1.trans e2).trans e')⟩
end
/-- a class of the text, made -/
theorem pe_mk {X : Cx} {k : Nat} {ps : List Str} {sp : Sp} {x : Str} {p pos : Pos} {e : Expr} {es : List Expr} {t : TA} {C : Addr} (M : Mk X.K C (He.ma X.K C "__init__")) (c : CalM X.prog X.w X.K X.mg (He.ma X.K C "__init__") k ps sp) (hr : Room (k + 1) X.A) (hg : Gl X x) (hm : X.mg x = some (.ref C)) (ha : PA X (e :: es) t)
    (hdb : (x == ("__debug__" : Str)) = false := by decide) (he : starEach (e :: es) X.env = (false, eval e X.env) :: starEach es X.env := by rfl) (hpl : (backTo pos (starEach es X.env)).any (·.1) = false := by rfl) : PE X (.Call (.Name x p) (e :: es) [] pos) (tMake C sp [] E0 t) := by
  obtain ⟨fd, h3, h4⟩ := c.ex
  exact pe_make M (h4 X.base) hr hg hm h3 .nil pass0 ha hdb he hpl
end K89
set_option Elab.async false
set_option linter.all false
set_option maxRecDepth 100000
set_option maxHeartbeats 4000000
/-! K89V: sources that are known by a property only; either of two readings; small helps. -/
namespace K89
open PySem PySem.Spec PyProof.Rows L2
section
variable {F B : Hp} {Γ : Gam} {M : List Mut1} {ta tb tc te td ty tv : TE} {tas : TA} {tt : TT} {t u : Ty} {ts us : List Ty} {K : PySem.W.Frag} {p : Addr} {m : MTy} {nx bk ct : L2.St → Hp → Prop} {rt : VK} {s1 s2 tbd : TS} {g : TG} {P : L2.St → Hp → Prop} {β : Type} {φ : β → Prop}
/-- .. of a property -/
def SrcX (wi : TI) (Γ : Gam) (M : List Mut1) (φ : β → Prop) (ts : β → List Ty) : Prop := ∀ F B σ H G, Hs F B M H G → Sl Γ σ G → ∀ R : It → Hp → Prop, (∀ J H' G' y, φ y → Hs F B M H' G' → Er G G' → SrcOk J G' (ts y) → R J H') → wi σ H R
theorem srcx_list {f : β → List Ty} (h : K89.E te Γ M (tEx φ fun y => tL (f y))) : SrcX (iList K te) Γ M φ f := fun F B σ H G s g R q => h F B σ H G s g _ fun v H' G' s' e' a => by
  obtain ⟨y, hy, b, vs, rfl, eb, av⟩ := a
  refine ⟨b, rfl, ⟨vs, SqL.of (s'.er b _ eb)⟩, q _ H' G' y hy s' e' ⟨fun H => SqL K H b vs, YAt vs, ?_, fun H e => SqL.of (e b _ eb), fun i t x H1 H2 G1 hi e1 e2 y => ?_⟩⟩
  · have w := walk_list (K := K) (a := b) (xs := vs)
    rw [av.length] at w
    exact w
  · obtain ⟨rfl, hx⟩ := y
    obtain ⟨t', ht', tx⟩ := av.get' hx
    rw [hi] at ht'
    cases ht'
    exact ⟨G1, Er.refl _, e2, Frm.refl _ _, t.mono e1 tx⟩
theorem srcx_items {kvs : β → List (Key × Ty)} (h : K89.E te Γ M (tEx φ fun y => tD (kvs y))) : SrcX (iItems te) Γ M φ (fun y => (kvs y).map fun e => tT [tV (kV e.1), e.2]) := fun F B σ H G s g R q => h F B σ H G s g _ fun v H' G' s' e' a => by
  obtain ⟨y0, hy, b, o, vs, rfl, eb, av⟩ := a
  refine ⟨b, o, vs, rfl, s'.er b _ eb, q _ H' G' y0 hy s' e' ⟨fun H => H b = some (.frz o (.dK vs)), YPair (fun i => vs[i]?.map fun kv => kV kv.1) (fun i => vs[i]?.map Prod.snd), ?_, fun H e => e b _ eb, fun i t x H1 H2 G1 hi e1 e2 y => ?_⟩⟩
  · have w := walk_items (d := b) (o := o) (kvs := vs)
    rw [List.length_map, ← av.length]
    exact w
  · obtain ⟨T, x1, x2, rfl, hT, rfl, h1, h2⟩ := y
    rw [List.getElem?_map] at hi
    cases e : (kvs y0)[i]? with
    | none => rw [e] at hi; cases hi
    | some z =>
      rw [e] at hi
      have hi' := Option.some.inj hi
      subst hi'
      obtain ⟨w', g1, g2⟩ := av.get e
      dsimp only at h1 h2
      rw [g1] at h1 h2
      have h1' := Option.some.inj h1
      have h2' := Option.some.inj h2
      subst h1' h2'
      exact pair_ok e2 hT rfl (z.2.mono e1 g2)
theorem n_forX {α : Type} {wi : TI} {tsx : β → List Ty} (hs : SrcX wi Γ M φ tsx) (J : β → Nat → α → Prop) (Γ' : β → α → Gam) (M' : β → α → List Mut1) (x0 : β → α) (h0 : ∀ y, φ y → J y 0 (x0 y)) (e0 : ∀ y, Γ = Γ' y (x0 y)) (e1 : ∀ y, M = M' y (x0 y))
    (step : ∀ y, φ y → ∀ B', Er B B' → ∀ i t x, (tsx y)[i]? = some t → J y i x → TgN g t F B' (Γ' y x) (M' y x) (tbd ⟨LI F B' (J y) (Γ' y) (M' y) (i + 1), rt, nx, LI F B' (J y) (Γ' y) (M' y) (i + 1)⟩))
    (hd : ∀ y, φ y → ∀ x, J y (tsx y).length x → N nx F B (Γ' y x) (M' y x)) : N (tFor wi g tbd ⟨nx, rt, bk, ct⟩) F B Γ M := fun σ H G s gm => by
  refine hs F B σ H G s gm _ fun J1 H' G' y hy s' e' ok => ?_
  obtain ⟨Gd, Y, w, hG, hY⟩ := ok.ok
  refine for_it w (fun i σ H => LI F G' (J y) (Γ' y) (M' y) i σ H) ⟨x0 y, G', h0 y hy, (e1 y) ▸ s'.here, (e0 y) ▸ gm.mono e'⟩ ?_ ?_ ?_
  · rintro i σ2 H2 _ ⟨x, G2, _, s2, _⟩
    exact hG H2 (s2.eb.trans s2.er)
  · rintro i v σ2 H2 H3 hi ⟨x, G2, hx, s2, g2⟩ yy
    have ht : (tsx y)[i]? = some (tsx y)[i] := List.getElem?_eq_getElem hi
    obtain ⟨G3, a1, a2, a3, a4⟩ := hY i _ v H2 H3 G2 ht s2.eb s2.er yy
    exact step y hy G' s'.eb i _ x ht hx σ2 H3 G3 v (s2.frm a1 a2 a3) (g2.mono a1) a4
  · rintro σ2 H2 ⟨x, G2, hx, s2, g2⟩
    exact hd y hy x hx σ2 H2 G2 (s2.base s'.eb) g2
theorem en_lcX {wi : TI} {vs : List Nat} {tsx : β → List Ty} (J : β → Nat → List Ty → Prop) (hs : SrcX wi Γ M φ tsx) (hz : ∀ y, φ y → (tsx y).length ≤ 50000) (h0 : ∀ y, φ y → J y 0 [])
    (step : ∀ y, φ y → ∀ i t us, (tsx y)[i]? = some t → J y i us → us.length ≤ i → ∃ Γ2 ψ, TgC g t vs (wip Γ vs) Γ2 ∧ ET tt Γ2 M ψ ∧ (ψ true → ∃ u, K89.E te Γ2 M u ∧ J y (i + 1) (us ++ [u])) ∧ (ψ false → J y (i + 1) us)) :
    EN (tLc wi g tt te vs) Γ M (mEx φ fun y => mEx (J y (tsx y).length) mL) := fun F B σ H G s gm Q q => by
  refine hs F B σ H G s gm _ fun J1 H' G' y hy s' e' ok D hD => ?_
  obtain ⟨Gd, Y, w, hG, hY⟩ := ok.ok
  refine lc_it w (fun i H => ∃ us G2, J y i us ∧ us.length ≤ i ∧ Hs F G' ((D, mL us) :: M) H G2) ⟨[], G', h0 y hy, Nat.le_refl _, s'.here.newM hD ⟨[], rfl, trivial⟩⟩ ?_ ?_ ?_
  · rintro i H2 _ ⟨us, G2, _, _, s2⟩
    exact hG H2 (s2.eb.trans s2.er)
  · rintro i x H2 H3 hi ⟨us, G2, hus, hl, s2⟩ yy
    have ht : (tsx y)[i]? = some (tsx y)[i] := List.getElem?_eq_getElem hi
    obtain ⟨G3, a1, a2, a3, a4⟩ := hY i _ x H2 H3 G2 ht s2.eb s2.er yy
    have s3 := s2.frm a1 a2 a3
    obtain ⟨Γ2, ψ, b1, b2, b3, b4⟩ := step y hy i _ us ht hus hl
    have g3 : Sl (wip Γ vs) (wipe σ vs) G3 := ((gm.mono e').mono (s2.eb.trans a1)).wip vs
    refine b1 (wipe σ vs) H3 G3 x g3 s3.er a4 _ fun σ2 hw g4 => ⟨?_, ?_⟩
    · rw [hw]
      exact wipe_wipe σ vs
    · obtain ⟨z1, z2, o, z3, ws, z4, z5⟩ := s3.mm D _ (List.mem_cons_self ..)
      subst z4
      refine b2 _ G' σ2 H3 G3 (s3.hide z3) g4 _ fun b H4 G4 s4 e4 a5 => ?_
      cases b with
      | true =>
        obtain ⟨u, c1, c2⟩ := b3 a5
        refine c1 _ G' σ2 H4 G4 s4 (g4.mono e4) _ fun y2 H5 G5 s5 e5 a6 => ?_
        have hD5 : H5 D = some (.lst ws) := (s5.fr D _ upd_same).1
        have zl := hz y hy
        refine ⟨ws, hD5, sz6 (by rw [z5.length]; omega), us ++ [u], G5, c2, by rw [List.length_append]; exact Nat.succ_le_succ hl, ?_⟩
        have s6 := s5.show z1 (m := mL us) ⟨ws, rfl, (z5.mono e4).mono e5⟩
        exact s6.write ⟨_, rfl, ((z5.mono e4).mono e5).append ⟨a6, trivial⟩⟩
      | false => exact ⟨us, G4, b4 a5, Nat.le_succ_of_le hl, s4.show z1 (m := mL us) ⟨ws, rfl, z5.mono e4⟩⟩
  · rintro H2 ⟨us, G2, hus, _, s2⟩
    refine q D H2 G2 ?_ (e'.trans s2.eb)
    have s3 := s2.base s'.eb
    exact ⟨s3.er, s3.eb, s3.fr, fun a n z => by
      rcases List.mem_cons.mp z with z | z
      · cases z
        obtain ⟨k1, k2, o, k3, k4⟩ := s3.mm D _ (List.mem_cons_self ..)
        exact ⟨k1, k2, o, k3, y, hy, us, hus, k4⟩
      · exact s3.mm a n (List.mem_cons_of_mem _ z), s3.nd⟩
theorem en_mapX {α : Type} {wi : TI} {vs : List Nat} {xs : β → List α} {f u : α → Ty} (hs : SrcX wi Γ M φ (fun y => (xs y).map f)) (hz : ∀ y, φ y → (xs y).length ≤ 50000)
    (step : ∀ y, φ y → ∀ x, x ∈ xs y → ∃ Γ2, TgC g (f x) vs (wip Γ vs) Γ2 ∧ K89.E te Γ2 M (u x)) : EN (tLc wi g tYes te vs) Γ M (mEx φ fun y => mL ((xs y).map u)) := by
  refine (en_lcX (fun y i us => us = ((xs y).take i).map u) hs (fun y hy => by rw [List.length_map]; exact hz y hy) (fun _ _ => rfl) fun y hy i t us ht hus hl => ?_).imp fun o G h => ?_
  · rw [List.getElem?_map] at ht
    cases e : (xs y)[i]? with
    | none => rw [e] at ht; cases ht
    | some x =>
      rw [e] at ht
      have ht' := Option.some.inj ht
      subst ht'
      obtain ⟨Γ2, a1, a2⟩ := step y hy x (List.mem_of_getElem? e)
      refine ⟨Γ2, _, a1, et_yes, fun _ => ⟨u x, a2, ?_⟩, fun z => nomatch z⟩
      rw [hus, List.take_succ, e, List.map_append]
      rfl
  · obtain ⟨y, hy, us, h1, h2⟩ := h
    rw [h1, List.length_map, List.take_length] at h2
    exact ⟨y, hy, h2⟩
theorem en_filX {α : Type} {wi : TI} {vs : List Nat} {xs : β → List α} {f u : α → Ty} {c : α → Bool} (hs : SrcX wi Γ M φ (fun y => (xs y).map f)) (hz : ∀ y, φ y → (xs y).length ≤ 50000)
    (step : ∀ y, φ y → ∀ x, x ∈ xs y → ∃ Γ2, TgC g (f x) vs (wip Γ vs) Γ2 ∧ ETb tt Γ2 M (c x) ∧ (c x = true → K89.E te Γ2 M (u x))) : EN (tLc wi g tt te vs) Γ M (mEx φ fun y => mL (((xs y).filter c).map u)) := by
  refine (en_lcX (fun y i us => us = (((xs y).take i).filter c).map u) hs (fun y hy => by rw [List.length_map]; exact hz y hy) (fun _ _ => rfl) fun y hy i t us ht hus hl => ?_).imp fun o G h => ?_
  · rw [List.getElem?_map] at ht
    cases e : (xs y)[i]? with
    | none => rw [e] at ht; cases ht
    | some x =>
      rw [e] at ht
      have ht' := Option.some.inj ht
      subst ht'
      obtain ⟨Γ2, a1, a2, a3⟩ := step y hy x (List.mem_of_getElem? e)
      have et : (xs y).take (i + 1) = (xs y).take i ++ [x] := by rw [List.take_succ, e]; rfl
      refine ⟨Γ2, _, a1, a2, fun z => ⟨u x, a3 z.symm, ?_⟩, fun z => ?_⟩
      · rw [hus, et, List.filter_append, List.map_append, List.filter_cons, if_pos z.symm]
        rfl
      · rw [hus, et, List.filter_append, List.map_append, List.filter_cons, if_neg (by rw [← z]; decide)]
        show _ = _ ++ []
        rw [List.append_nil]
  · obtain ⟨y, hy, us, h1, h2⟩ := h
    rw [h1, List.length_map, List.take_length] at h2
    exact ⟨y, hy, h2⟩
theorem e_allX {α : Type} {xs : β → List α} {f : α → Bool} (h : EN te Γ M (mEx φ fun y => mL ((xs y).map fun x => tB (f x)))) : K89.E (tCB (rAll K) (tCons te tNil)) Γ M (tEx φ fun y => tB ((xs y).all f)) := fun F B σ H G s g Q q => (h.lx) F B σ H G s g _ fun v H1 G1 s1 e1 a1 => by
  obtain ⟨y, hy, a1⟩ := a1
  have e : ((xs y).map fun x => tB (f x)) = ((xs y).map f).map tB := by rw [List.map_map] <;> rfl
  have a1 : (tL ((xs y).map fun x => tB (f x))).at_ v G1 := a1
  rw [e] at a1
  refine bi_all (K := K) (bs := (xs y).map f) F B M H1 G1 [v] s1 ⟨a1, trivial⟩ Q fun v2 H2 G2 s2 e2 a2 => q v2 H2 G2 s2 (e1.trans e2) ⟨y, hy, ?_⟩
  rw [List.all_map] at a2
  exact a2

/-! ### either reading -/
def or2 (t1 t2 : TE) : TE := fun σ H Q => t1 σ H Q ∨ t2 σ H Q
theorem pe_or2 {X : Cx} {e : Expr} {t1 t2 : TE} (h1 : PE X e t1) (h2 : PE X e t2) : PE X e (or2 t1 t2) := ⟨fun pins s σ H Q I h => by
  rcases h with h | h
  · exact h1.run pins s σ H Q I h
  · exact h2.run pins s σ H Q I h⟩
theorem e_or2l (h : K89.E ta Γ M t) : K89.E (or2 ta tb) Γ M t := fun F B σ H G s g Q q => .inl (h F B σ H G s g Q q)
theorem e_or2r (h : K89.E tb Γ M t) : K89.E (or2 ta tb) Γ M t := fun F B σ H G s g Q q => .inr (h F B σ H G s g Q q)
def orI (w1 w2 : TI) : TI := fun σ H R => w1 σ H R ∨ w2 σ H R
theorem pi_or {X : Cx} {tg e : Expr} {w1 w2 : TI} (h1 : PI X tg e w1) (h2 : PI X tg e w2) : PI X tg e (orI w1 w2) := ⟨fun pins s σ H R I h => by
  rcases h with h | h
  · exact h1.run pins s σ H R I h
  · exact h2.run pins s σ H R I h⟩
theorem src_enumQ {tup : Bool} (h : K89.E te Γ M (tSq tup ts)) : Src (orI (iEnum K (tCons te tNil)) (iEnumT K (tCons te tNil))) Γ M (enumT ts) := by
  cases tup with
  | false => exact fun F B σ H G s g R q => .inl (src_enum (ea_cons h ea_nil) F B σ H G s g R q)
  | true => exact fun F B σ H G s g R q => .inr (src_enumT (ea_cons h ea_nil) F B σ H G s g R q)
theorem e_slQ {tup : Bool} {tl th : TO} {lo hi : Option Int} (h : K89.E te Γ M (tSq tup ts)) (h1 : EO tl Γ M lo) (h2 : EO th Γ M hi) : K89.E (or2 (tSl (rSlL K) te tl th) (tSl (rSlA K) te tl th)) Γ M (tSq tup (cutA ts lo hi)) := by
  cases tup with
  | false => exact e_or2l (en_slL h h1 h2).l
  | true => exact e_or2r (e_slT h h1 h2)

/-! ### small helps -/
/-- d[k] = v, all values alike: a key more, if it is new -/
def addK (ks : List Nat) (k : Nat) : List Nat := if k ∈ ks then ks else ks ++ [k]
theorem mem_addK {ks : List Nat} {k x : Nat} : x ∈ addK ks k ↔ x ∈ ks ∨ x = k := by
  unfold addK
  by_cases h : k ∈ ks
  · rw [if_pos h]
    exact ⟨.inl, fun z => z.elim id fun e => e ▸ h⟩
  · rw [if_neg h, List.mem_append, List.mem_singleton]
theorem addK_nodup {ks : List Nat} {k : Nat} (h : ks.Nodup) : (addK ks k).Nodup := by
  unfold addK
  by_cases z : k ∈ ks
  · rw [if_pos z]
    exact h
  · rw [if_neg z]
    refine List.nodup_append.mpr ⟨h, by simp, fun a ha b hb e => ?_⟩
    have hb' : b = k := by simpa using hb
    exact z (by rw [← hb', ← e]; exact ha)
theorem n_dputU {j : Nat} {ks : List Nat} {k : Nat} (hj : M[j]? = some (p, mD (ks.map fun k => (kn k, t)))) (hv : K89.E tv Γ M t) (hd : K89.E td Γ M (tR p)) (hy : K89.E ty Γ M (tn k)) (hz : ks.length < 100000) (kn' : N nx F B Γ (M.set j (p, mD ((addK ks k).map fun k => (kn k, t))))) : N (sDPut td ty tv ⟨nx, rt, bk, ct⟩) F B Γ M := by
  unfold addK at kn'
  by_cases h : k ∈ ks
  · rw [if_pos h, set_same hj] at kn'
    refine n_dputS (k := kn k) hj hv hd hy (by rw [List.length_map]; exact hz) ?_ ?_ kn'
    · intro e
      refine dLook_no.mp e ?_
      rw [List.map_map]
      exact List.mem_map.mpr ⟨k, h, rfl⟩
    · intro z hz' _
      obtain ⟨x, _, rfl⟩ := List.mem_map.mp hz'
      rfl
  · rw [if_neg h] at kn'
    refine n_dput (k := kn k) hj hv hd hy (by rw [List.length_map]; exact hz) ?_ ?_
    · refine dLook_no.mpr fun m => h ?_
      rw [List.map_map] at m
      obtain ⟨x, h1, h2⟩ := List.mem_map.mp m
      exact kn_inj h2 ▸ h1
    · rw [List.map_append] at kn'
      exact kn'
theorem nodup_len : ∀ (n : Nat) {ks : List Nat}, ks.Nodup → (∀ k ∈ ks, k < n) → ks.length ≤ n
  | 0, [], _, _ => Nat.le_refl _
  | 0, k :: ks, _, h => absurd (h k (List.mem_cons_self ..)) (Nat.not_lt_zero _)
  | n + 1, ks, nd, h => by
    have h1 := nodup_len n (ks := ks.filter (· ≠ n)) (nd.filter _) fun k hk => by
      have h2 := List.mem_filter.mp hk
      have h3 := h k h2.1
      have h4 : k ≠ n := by simpa using h2.2
      omega
    have h5 : ks.length ≤ (ks.filter (· ≠ n)).length + 1 := by
      clear h1 h
      induction ks with
      | nil => exact Nat.zero_le _
      | cons a ks ih =>
        have nd' := List.nodup_cons.mp nd
        by_cases z : a = n
        · subst z
          have e : (a :: ks).filter (· ≠ a) = ks.filter (· ≠ a) := by rw [List.filter_cons, if_neg (by simp)]
          have e2 : ks.filter (· ≠ a) = ks := List.filter_eq_self.mpr fun x hx => by
            have : x ≠ a := fun q => nd'.1 (q ▸ hx)
            simpa using this
          rw [e, e2]
          exact Nat.le_refl _
        · rw [List.filter_cons, if_pos (by simpa using z), List.length_cons, List.length_cons]
          have := ih nd'.2
          omega
    omega
/-- a list of values known by properties -/
theorem at_exs {α γ : Type} {G : Hp} {φ : α → γ → Prop} {f : γ → Ty} : ∀ {xs : List α} {vs : List V}, At (xs.map fun x => tEx (φ x) f) vs G → ∃ zs : List γ, zs.length = xs.length ∧ (∀ (i : Nat) x z, xs[i]? = some x → zs[i]? = some z → φ x z) ∧ At (zs.map f) vs G
  | [], [], _ => ⟨[], rfl, fun i x z h => by simp at h, trivial⟩
  | x :: xs, v :: vs, h => by
    obtain ⟨⟨z, hz, hv⟩, h2⟩ := h
    obtain ⟨zs, h3, h4, h5⟩ := at_exs h2
    refine ⟨z :: zs, by rw [List.length_cons, List.length_cons, h3], fun i a b ha hb => ?_, hv, h5⟩
    cases i with
    | zero =>
      simp at ha hb
      rw [← ha, ← hb]
      exact hz
    | succ i => exact h4 i a b (by simpa using ha) (by simpa using hb)
  | [], _ :: _, h => h.elim
  | _ :: _, [], h => h.elim
theorem e_exs {α γ : Type} {φ : α → γ → Prop} {f : γ → Ty} {xs : List α} (h : K89.E te Γ M (tL (xs.map fun x => tEx (φ x) f))) : K89.E te Γ M (tEx (fun zs : List γ => zs.length = xs.length ∧ ∀ (i : Nat) x z, xs[i]? = some x → zs[i]? = some z → φ x z) fun zs => tL (zs.map f)) := h.imp fun v G a => by
  obtain ⟨b, vs, rfl, eb, av⟩ := a
  obtain ⟨zs, h1, h2, h3⟩ := at_exs av
  exact ⟨zs, ⟨h1, h2⟩, b, vs, rfl, eb, h3⟩
theorem tg_3 {i j l : Nat} {t1 t2 t3 : Ty} (k : N P F B (((Γ.set i (some t1)).set j (some t2)).set l (some t3)) M) : TgN (gTup K 3 (gCons (gName i) (gCons (gName j) (gCons (gName l) gNil)))) (tT [t1, t2, t3]) F B Γ M P := fun σ H G v s g a => by
  obtain ⟨b, vs, rfl, eb, av⟩ := a
  match vs, av with
  | [x, y, z], av => exact ⟨b, [x, y, z], rfl, SqT.of (s.er b _ eb), rfl, x, [y, z], rfl, y, [z], rfl, z, [], rfl, rfl, k _ H G s (((g.set av.1 i).set av.2.1 j).set av.2.2.1 l)⟩
/-- said, heard -/
theorem tc_22 {i j : Nat} {vs : List Nat} {t1 t2 : Ty} (h : i ∈ vs) (h2 : j ∈ vs) : TgC (gTup K 2 (gCons (gName i) (gCons (gName j) gNil))) (tT [t1, t2]) vs Γ ((Γ.set i (some t1)).set j (some t2)) := tc_2 h h2
end
end K89
set_option Elab.async false
set_option linter.all false
set_option maxRecDepth 100000
set_option maxHeartbeats 4000000
/-! K89P3: a, b, c = x, y, z of plain local names. -/
namespace K89
open PySem PySem.Spec PyProof.Rows L2
/-- stored from the right -/
def tPar3 (i j l : Nat) (ta : TA) : TS := fun D σ H => ta σ H fun vs H1 => ∃ v w z, vs = [v, w, z] ∧ D.nx (((σ.set i (some v)).set j (some w)).set l (some z)) H1
theorem ps_par3 {X : Cx} {i j l : Nat} {x y z : Str} {e1 e2 e3 : Expr} {ta : TA} {pos px py pz pt : Pos} {kt k2 pt2} (calm : X.calm = true) (nd : X.N.Nodup) (ix : X.N[i]? = some x) (iy : X.N[j]? = some y) (iz : X.N[l]? = some z) (nij : i ≠ j) (nil' : i ≠ l) (njl : j ≠ l)
    (lx : X.env.scope.names.lookup x = some .local) (ly : X.env.scope.names.lookup y = some .local) (lz : X.env.scope.names.lookup z = some .local) (pa : PA X [e1, e2, e3] ta)
    (sw : swappedStores [.Tuple [.Name x px, .Name y py, .Name z pz] kt pt] (.Tuple [e1, e2, e3] k2 pt2) X.env = pure (some [x, y, z]))
    (so : swapsWithSole [.Tuple [.Name x px, .Name y py, .Name z pz] kt pt] (.Tuple [e1, e2, e3] k2 pt2) pos.line X.env = pure false := by rfl) :
    PS X (.Assign [.Tuple [.Name x px, .Name y py, .Name z pz] kt pt] (.Tuple [e1, e2, e3] k2 pt2) pos) (tPar3 i j l ta) := by
  refine ⟨fun pins s σ H D I hw => ?_⟩
  rw [exec_Assign_arm]
  refine wpAny_bind (wpAny_standAt ?_)
  rw [so]
  refine wpAny_bind (wpAny_pure ?_)
  rw [if_neg (by decide)]
  refine wpAny_bind (Tuple_ (thn (pa.run _ pins s σ H _ I hw) fun us s1 ⟨vs, H1, I1, rs, v, w, u, ev, q⟩ => ?_))
  subst ev
  obtain ⟨u1, u2, u3, rfl, r1, r2, r3⟩ : ∃ u1 u2 u3, us = [u1, u2, u3] ∧ RelV v u1 ∧ RelV w u2 ∧ RelV u u3 := by
    cases rs with
    | cons p1 t1 => cases t1 with
      | cons p2 t2 => cases t2 with
        | cons p3 t3 =>
          cases t3
          exact ⟨_, _, _, rfl, p1, p2, p3⟩
  refine wpAny_newObj_type ?_ (by show 3 ≤ sizeLine; decide)
  have J : Inv X pins σ H1 { s1 with heap := s1.heap.push { cls := .type "tuple", data := .seq [u1, u2, u3].toArray } } := I1.kept (t' := s1.toks) fun b o e => Heap.get?_push_of_some _ e
  rw [sw]
  refine wpAny_bind (wpAny_pure ?_)
  show wpAny (model X.prog X.w) X.A (do rule "assign.swapped-stores"; let items ← unpackItems (.ref s1.heap.objs.size) 3 none; assignInOrder [fun v => bindName X.env z v, fun v => bindName X.env y v, fun v => bindName X.env x v] items.reverse; pure Flow.next) _ _ _
  refine wpAny_bind (wpAny_rule (wpAny_bind (unpackItems_tuple (items := #[u1, u2, u3]) (I.ok.hd calm) (IsTup.new s1.heap _) fun hp keep => ?_)))
  have J1 := J.kept (h' := hp) (t' := s1.toks) fun b o e => keep b o (Nat.ne_of_lt (Heap.lt_size e)) e
  show wpAny _ _ (assignInOrder [fun v => bindName X.env z v, fun v => bindName X.env y v, fun v => bindName X.env x v] [u3, u2, u1] >>= fun _ => pure Flow.next) _ _ _
  refine wpAny_bind (assignInOrder_cons (wpAny_bindName (store_ok J1 nd iz (.inl lz) r3 (fun s2 J2 => ?_) (.inr lz))))
  refine assignInOrder_cons (wpAny_bindName (store_ok J2 nd iy (.inl ly) r2 (fun s3 J3 => ?_) (.inr ly)))
  refine assignInOrder_cons (wpAny_bindName (store_ok J3 nd ix (.inl lx) r1 (fun s4 J4 => assignInOrder_nil (wpAny_pure ?_)) (.inr lx)))
  have e : (((σ.set l (some u)).set j (some w)).set i (some v)) = (((σ.set i (some v)).set j (some w)).set l (some u)) := by
    rw [List.set_comm _ _ (Ne.symm njl), List.set_comm _ _ (Ne.symm nil'), List.set_comm _ _ (Ne.symm nij)]
  rw [e] at J4
  exact ⟨_, H1, J4, q⟩
end K89
set_option Elab.async false
set_option linter.all false
set_option maxRecDepth 100000
/-! K89Z: letters and keys of whole rows. -/
namespace K89
open PySem L2
theorem fm_range {α : Type} {f : Ev → Option α} {r : Row} : (List.range r.length).filterMap (fun p => (r[p]?).bind f) = r.filterMap f := by
  have e : r = (List.range r.length).filterMap fun p => r[p]? := by
    refine List.ext_getElem? fun i => ?_
    induction r generalizing i with
    | nil => rfl
    | cons x r ih =>
      rw [List.length_cons, List.range_succ_eq_map, List.filterMap_cons]
      show _ = (x :: List.filterMap _ _)[i]?
      cases i with
      | zero => rfl
      | succ i =>
        rw [List.getElem?_cons_succ, List.getElem?_cons_succ, List.filterMap_map]
        exact ih i
  conv => rhs; rw [e, List.filterMap_filterMap]
theorem fm_congr {α β : Type} {f g : α → Option β} : ∀ {l : List α}, (∀ x ∈ l, f x = g x) → l.filterMap f = l.filterMap g
  | [], _ => rfl
  | x :: l, h => by rw [List.filterMap_cons, List.filterMap_cons, h x (List.mem_cons_self ..), fm_congr fun y hy => h y (List.mem_cons_of_mem _ hy)]
theorem flat_evs {α : Type} {f : Ev → Option α} : ∀ {rs : List Row} {k : Nat}, (evs k rs).filterMap (fun z => (evAt rs (z.1 - k) z.2).bind f) = rs.flatten.filterMap f
  | [], _ => rfl
  | r :: rs, k => by
    show (((List.range r.length).map fun p => (k, p)) ++ evs (k + 1) rs).filterMap _ = (r ++ rs.flatten).filterMap f
    rw [List.filterMap_append, List.filterMap_append, List.filterMap_map, ← flat_evs (rs := rs) (k := k + 1)]
    congr 1
    · rw [← fm_range]
      refine fm_congr fun p hp => ?_
      show (evAt (r :: rs) (k - k) p).bind f = _
      rw [Nat.sub_self]
      rfl
    · refine fm_congr fun z hz => ?_
      obtain ⟨h, p⟩ := z
      have h1 := (mem_evs.mp hz).1
      have e : h - k = (h - (k + 1)) + 1 := by omega
      show (evAt (r :: rs) (h - k) p).bind f = (evAt rs (h - (k + 1)) p).bind f
      rw [e]
      rfl
theorem flat_evs0 {α : Type} {f : Ev → Option α} {rs : List Row} : rs.flatten.filterMap f = (evs 0 rs).filterMap fun z => (evAt rs z.1 z.2).bind f := by
  rw [← flat_evs (k := 0)]
  rfl
theorem flat_len {rs : List Row} : rs.flatten.length = (evs 0 rs).length := by
  have h := congrArg List.length (flat_evs0 (f := fun e => some e) (rs := rs))
  rw [List.filterMap_some] at h
  rw [h]
  have e : ∀ l : List (Nat × Nat), (∀ z ∈ l, ∃ e, evAt rs z.1 z.2 = some e) → (l.filterMap fun z => (evAt rs z.1 z.2).bind fun e => some e).length = l.length := by
    intro l
    induction l with
    | nil => intro _; rfl
    | cons z l ih =>
      intro hz
      obtain ⟨e, he⟩ := hz z (List.mem_cons_self ..)
      rw [List.filterMap_cons, he]
      show (_ :: _).length = _
      rw [List.length_cons, List.length_cons, ih fun y hy => hz y (List.mem_cons_of_mem _ hy)]
  exact e _ fun z hz => by
    obtain ⟨_, e, he⟩ := mem_evs.mp (show (z.1, z.2) ∈ evs 0 rs from hz)
    exact ⟨e, by rw [Nat.sub_zero] at he; exact he⟩
/-- the letters said with whom they go to -/
def sayPr : Ev → Option (Nat × Nat)
  | .say l g _ => some (l, g)
  | _ => none
def saidP (rs : List Row) : List (Nat × Nat) := rs.flatten.filterMap sayPr
theorem mem_saidP {rs : List Row} {l g : Nat} : (l, g) ∈ saidP rs ↔ ∃ h p t, evAt rs h p = some (.say l g t) := by
  unfold saidP
  rw [flat_evs0, List.mem_filterMap]
  constructor
  · rintro ⟨⟨h, p⟩, hz, e⟩
    cases q : evAt rs h p with
    | none => rw [q] at e; cases e
    | some ev =>
      rw [q] at e
      cases ev with
      | say l' g' t =>
        have e' : (l', g') = (l, g) := Option.some.inj e
        cases e'
        exact ⟨h, p, t, q⟩
      | do_ s => cases e
      | hear l => cases e
  · rintro ⟨h, p, t, q⟩
    refine ⟨(h, p), mem_evs.mpr ⟨Nat.zero_le _, _, by rw [Nat.sub_zero]; exact q⟩, ?_⟩
    show (evAt rs h p).bind sayPr = _
    rw [q]
    rfl
theorem saidP_len {rs : List Row} (R : Rs rs) : (saidP rs).length ≤ 13 := Nat.le_trans (List.length_filterMap_le ..) (by rw [flat_len]; exact R.tot)
/-- the keys of the steps that are no doings -/
def keyOf : Ev → Option (List Key)
  | .do_ _ => none
  | .say l _ _ => some [Sum.inr "say", kn l]
  | .hear l => some [Sum.inr "hear", kn l]
theorem keyOf_let {e : Ev} {k : List Key} (h : keyOf e = some k) : ∃ b l, e.let_ b = some l ∧ k = [Sum.inr (wordOf b), kn l] := by
  cases e with
  | do_ s => cases h
  | say l g t => exact ⟨true, l, rfl, (Option.some.inj h).symm⟩
  | hear l => exact ⟨false, l, rfl, (Option.some.inj h).symm⟩
theorem word_inj {b c : Bool} (h : wordOf b = wordOf c) : b = c := by
  cases b <;> cases c
  · rfl
  · exact absurd (show ("hear" : Str) = "say" from h) (by decide)
  · exact absurd (show ("say" : Str) = "hear" from h) (by decide)
  · rfl
def keysR (rs : List Row) : List (List Key) := rs.flatten.filterMap keyOf
theorem keys_nodup {rs : List Row} (R : Rs rs) : (keysR rs).Nodup := by
  unfold keysR
  rw [flat_evs0]
  refine List.Pairwise.filterMap _ (R := (· ≠ ·)) ?_ evs_nodup
  rintro ⟨h, p⟩ ⟨h', p'⟩ ne k hk k' hk' e
  subst e
  refine ne ?_
  have f : ∀ h p, (evAt rs h p).bind keyOf = some k → ∃ b l, letAt b rs h p = some l ∧ k = [Sum.inr (wordOf b), kn l] := by
    intro h p q
    cases z : evAt rs h p with
    | none => rw [z] at q; cases q
    | some e =>
      rw [z] at q
      obtain ⟨b, l, h1, h2⟩ := keyOf_let (show keyOf e = some k from q)
      exact ⟨b, l, by unfold letAt; rw [z]; exact h1, h2⟩
  obtain ⟨b, l, h1, h2⟩ := f h p hk
  obtain ⟨b', l', h3, h4⟩ := f h' p' hk'
  rw [h2] at h4
  injection h4 with e1 e2
  injection e2 with e2 _
  have eb := word_inj (by injection e1)
  have el := kn_inj e2
  subst eb el
  obtain ⟨rfl, rfl⟩ := R.uq b _ _ _ _ _ h1 h3
  rfl
end K89
set_option Elab.async false
set_option linter.all false
set_option maxRecDepth 100000
set_option maxHeartbeats 4000000
/-! K89N2: a def that gives a new object; a chain of comparisons. -/
namespace K89
open PySem PySem.Spec PyProof.Rows L2
section
variable {F B : Hp} {Γ : Gam} {M : List Mut1} {ta tb tc te : TE} {tas : TA} {t : Ty} {K : PySem.W.Frag} {p : Addr} {m : MTy} {nx bk ct : L2.St → Hp → Prop} {rt : VK} {β : Type} {φ : β → Prop}
def RetN (F B : Hp) (m : MTy) (Q : VK) : Prop := ∀ p H G, Er B G → Er G H → (∀ a o, F a = some o → H a = some o ∧ G a = none) → F p = none → G p = none → (∃ o, H p = some o ∧ m.at_ o G) → Q (.ref p) H
def spN {α : Type} (as : α → List Ty) (m : α → MTy) : Sp := fun vs H Q _ => ∃ (x : α) (G : Hp), Er G H ∧ At (as x) vs G ∧ RetN (frm G H) G (m x) Q
theorem n_retNew (h : EN te Γ M m) (k : RetN F B m rt) : N (tRet te ⟨nx, rt, bk, ct⟩) F B Γ M := fun σ H G s g => h F B σ H G s g _ fun p H' G' s' e' => by
  obtain ⟨h1, h2, h3⟩ := s'.mm p m (List.mem_cons_self ..)
  exact k p H' G' s'.eb s'.er s'.fr h1 h2 h3
theorem en_f {α : Type} {as : α → List Ty} {m1 : α → MTy} {E0 : XK} (x : α) (h : EA tas Γ M (as x)) (e : m1 x = m := by rfl) : EN (tCall (spN as m1) [] E0 tas) Γ M m := fun F B σ H G s g Q q =>
  h F B σ H G s g _ fun vs H1 G1 s1 e1 a1 => by
    rw [List.append_nil]
    refine ⟨x, G1, s1.er, a1, fun p H' G' e2 e3 f fp gp ho => q p H' G' ?_ (e1.trans e2)⟩
    have s2 := s1.frm e2 e3 fun b o h1 h2 => f b o (frm_of h1 h2)
    refine ⟨s2.er, s2.eb, s2.fr, fun a n z => ?_, List.nodup_cons.mpr ⟨fun z => ?_, s2.nd⟩⟩
    · rcases List.mem_cons.mp z with z | z
      · cases z
        refine ⟨?_, gp, by rw [← e]; exact ho⟩
        cases w : F p with
        | none => rfl
        | some u =>
          obtain ⟨h1, h2⟩ := s1.fr p u w
          rw [frm_of h2 h1] at fp
          cases fp
      · exact s2.mm a n z
    · obtain ⟨⟨b, n⟩, z1, z2⟩ := List.mem_map.mp z
      have z3 : b = p := z2
      subst z3
      obtain ⟨_, h2, o, h3, _⟩ := s1.mm b n z1
      rw [frm_of h2 h3] at fp
      cases fp
def BodyN {α : Type} (t : TS) (n : Nat) (as : α → List Ty) (m : α → MTy) : Prop := ∀ (x : α) (F B : Hp) (Q : VK), RetN F B (m x) Q → N (t { nx := fun _ H' => Q .non H', rt := Q }) F B ((as x).map some ++ List.replicate n none) []
theorem body_runN {α : Type} {t : TS} {n : Nat} {as : α → List Ty} {m : α → MTy} (b : BodyN t n as m) {N ps : List Str} {vs : List V} {H : Hp} {Q : VK} {E : XK} (hN : N.length = ps.length + n) (hl : ∀ x, (as x).length = ps.length) (h : spN as m vs H Q E) : t { nx := fun _ H' => Q .non H', rt := Q } (L2.start N vs) H := by
  obtain ⟨x, G, e, a, q⟩ := h
  have e1 : L2.start N vs = vs.map some ++ List.replicate n none := by
    unfold L2.start
    rw [hN, a.length, hl, Nat.add_sub_cancel_left]
  rw [e1]
  exact b x (K89.frm G H) G Q q _ H G (Hs.enter e) (Sl.start n a)
theorem Cal.mkN' {α : Type} {P : Program} {w : World} {mg : Str → Option Value} {as : α → List Ty} {m : α → MTy} {x : Str} {N ps : List Str} {k n : Nat} (T : En K mg) (i j : Nat) {d : He.DefD} (hd : fn[i]? = some d) (hg : fa[j]? = some (.glo x)) (h1 : d.at_ = (x, none)) (h2 : d.dfl = []) (h3 : d.kwd = []) (S : FnScope N ps d.scope)
    (hN : N.length = ps.length + n) (hl : ∀ y, (as y).length = ps.length)
    (hb : ∀ (kV doc pm : Value) (an : Option Addr) (cdv ct : Value) (us : List Value), us.length = ps.length → bindArgs (PySem.W.fnOf d.name d.qual d.params d.body d.scope .none kV doc pm an cdv ct) ⟨us, []⟩ = pure (ps.zip us))
    (hbody : ∀ (base : Heap) (cdv : Value) (A : Around) (outer : List Env) (s : Shared) (H : Hp) (E : XK), Room k (A.deeper (envOfC d.qual d.scope s.heap.objs.size (He.ga K x) cdv)) →
      ∃ t, PSs (cxOf CX0 P w K mg base N d.qual d.scope (He.ga K x) cdv A outer s H E).nox d.body t ∧ BodyN t n as m) : Cal P w K mg x (k + 1) ps (spN as m) := by
  obtain ⟨fd, F⟩ := T.defD i hd
  have e1 : d.dvs K = [] := by unfold He.DefD.dvs; rw [h2]; rfl
  have e2 : d.kws K = [] := by unfold He.DefD.kws; rw [h3]; rfl
  have e3 : He.fAd K d.at_ = He.ga K x := by rw [h1]; rfl
  rw [e1, e2, e3] at F
  refine ⟨_, fd, T.glo j hg, F.kp, ⟨F.bindsN hb, inK_of F⟩, fun base => F.ok S (fun vs H Q E h => ?_) fun cdv A outer s H vs Q E hr h => ?_⟩
  · obtain ⟨y, G, _, a, _⟩ := h
    rw [a.length, hl]
  · obtain ⟨t, h4, h5⟩ := hbody base cdv A outer s H E hr
    exact ⟨t, h4.nox, body_runN h5 hN hl h⟩
/-- a <= b < c -/
theorem e_chain {f g : Int → Int → Bool} {i j k : Int} (ha : K89.E ta Γ M (tI i)) (hb : K89.E tb Γ M (tI j)) (hc : f i j = true → K89.E tc Γ M (tI k)) : K89.E (tChain (rI0 fun i j => .bl (f i j)) (rI0 fun i j => .bl (g i j)) ta tb tc) Γ M (tB (f i j && g j k)) := fun F B σ H G s gm Q q =>
  ha F B σ H G s gm _ fun v1 H1 G1 s1 e1 a1 => hb F B σ H1 G1 s1 (gm.mono e1) _ fun v2 H2 G2 s2 e2 a2 => by
    have a1' : v1 = .int i := a1
    have a2' : v2 = .int j := a2
    subst a1' a2'
    refine ⟨i, j, rfl, rfl, f i j, rfl, ?_⟩
    cases e : f i j with
    | false =>
      rw [if_neg Bool.false_ne_true]
      exact q _ H2 G2 s2 (e1.trans e2) (by rw [e]; rfl)
    | true =>
      rw [if_pos rfl]
      refine hc e F B σ H2 G2 s2 ((gm.mono e1).mono e2) _ fun v3 H3 G3 s3 e3 a3 => ⟨j, k, rfl, a3, q _ H3 G3 s3 ((e1.trans e2).trans e3) (by rw [e]; rfl)⟩
theorem e_anyX {α : Type} {xs : β → List α} {f : α → Bool} (h : EN te Γ M (mEx φ fun y => mL ((xs y).map fun x => tB (f x)))) : K89.E (tCB (rAny K) (tCons te tNil)) Γ M (tEx φ fun y => tB ((xs y).any f)) := fun F B σ H G s g Q q => (h.lx) F B σ H G s g _ fun v H1 G1 s1 e1 a1 => by
  obtain ⟨y, hy, a1⟩ := a1
  have e : ((xs y).map fun x => tB (f x)) = ((xs y).map f).map tB := by rw [List.map_map] <;> rfl
  have a1 : (tL ((xs y).map fun x => tB (f x))).at_ v G1 := a1
  rw [e] at a1
  refine bi_any (K := K) (bs := (xs y).map f) F B M H1 G1 [v] s1 ⟨a1, trivial⟩ Q fun v2 H2 G2 s2 e2 a2 => q v2 H2 G2 s2 (e1.trans e2) ⟨y, hy, ?_⟩
  rw [List.any_map] at a2
  exact a2
end
end K89
namespace K89
open PySem PySem.Spec PyProof.Rows L2
/-- a def with one default, every argument given -/
theorem Cal.mkD' {α : Type} {P : Program} {w : World} {K : PySem.W.Frag} {mg : Str → Option Value} {as : α → List Ty} {r : α → Ty} {x : Str} {N ps : List Str} {k n : Nat} (T : En K mg) (i j : Nat) {d : He.DefD} (hd : fn[i]? = some d) (hg : fa[j]? = some (.glo x)) (h1 : d.at_ = (x, none)) (h2 : d.dfl.length = 1) (h3 : d.kwd = []) (S : FnScope N ps d.scope)
    (hN : N.length = ps.length + n) (hl : ∀ y, (as y).length = ps.length)
    (hb : ∀ (T : Addr) (kV doc pm : Value) (an : Option Addr) (cdv ct : Value) (us its : List Value), us.length = ps.length → its.length = 1 →
      ∃ k, bindArgs (PySem.W.fnOf d.name d.qual d.params d.body d.scope (.ref T) kV doc pm an cdv ct) ⟨us, []⟩ = seqItems? (.ref T) >>= k ∧ k (some its.toArray) = pure (ps.zip (us ++ its.drop 1)))
    (hbody : ∀ (base : Heap) (cdv : Value) (A : Around) (outer : List Env) (s : Shared) (H : Hp) (E : XK), Room k (A.deeper (envOfC d.qual d.scope s.heap.objs.size (He.ga K x) cdv)) →
      ∃ t, PSs (cxOf CX0 P w K mg base N d.qual d.scope (He.ga K x) cdv A outer s H E).nox d.body t ∧ Body t n as r) : Cal P w K mg x (k + 1) ps (spT as r) := by
  obtain ⟨fd, F⟩ := T.defD i hd
  have e2 : d.kws K = [] := by unfold He.DefD.kws; rw [h3]; rfl
  have e3 : He.fAd K d.at_ = He.ga K x := by rw [h1]; rfl
  have l1 : (d.dvs K).length = 1 := by unfold He.DefD.dvs; rw [List.length_map, h2]
  rw [e2, e3] at F
  obtain ⟨ds, hv, hB⟩ := FunD.binds1 (ps := ps) F ps.length 1 (fun e => by rw [e] at l1; cases l1) (by rw [l1] <;> rfl) fun Ta kV doc pm an cdv ct us its hu hi => hb Ta kV doc pm an cdv ct us its hu (hi.trans l1)
  have d0 : (d.dvs K).drop 1 = [] := List.drop_eq_nil_of_le (by omega)
  rw [d0] at hv
  cases hv
  refine ⟨_, fd, T.glo j hg, F.kp, ⟨hB, inK_of F⟩, fun base => F.ok S (fun vs H Q E h => ?_) fun cdv A outer s H vs Q E hr h => ?_⟩
  · obtain ⟨y, G, _, a, _⟩ := h
    rw [a.length, hl]
  · obtain ⟨t, h4, h5⟩ := hbody base cdv A outer s H E hr
    exact ⟨t, h4.nox, body_run h5 hN hl h⟩
end K89
set_option Elab.async false
set_option linter.all false
set_option maxRecDepth 100000
set_option maxHeartbeats 4000000
/-! K89W1: the small defs. -/
namespace K89
open PySem PySem.Spec PyProof.Rows L2
section
variable {P : Program} {w : World} {K : PySem.W.Frag} {mg : Str → Option Value}
theorem f_is_integer (T : En K mg) : Cal P w K mg "is_integer" 1 ["value"] (spT (fun i : Int => [tI i]) (fun _ => tB true)) := by
  have S : FnScope ["value"] ["value"] d_is_integer.scope := ⟨rfl, rfl, rfl, by decide +kernel, rfl, by decide +kernel, by decide +kernel⟩
  refine Cal.mk' (n := 0) T 0 0 rfl rfl rfl rfl rfl S rfl (fun _ => rfl) (fun _ _ _ _ _ _ us hl => match us, hl with | [_], _ => rfl) fun base cdv A outer s H EX hr => ⟨_, (pss_one (ps_ret (pe_and (pe_callB call_isi rfl T.isinstance bo_isinstance (pa_cons (pv 0) (pa_cons (pe_ty T.int_ rfl bo_int) pa_nil))) (pe_one (pe_not (pe_callB call_isi rfl T.isinstance bo_isinstance (pa_cons (pv 0) (pa_cons (pe_ty T.bool rfl bo_bool) pa_nil)))))))), ?_⟩
  intro i F B Q q
  exact n_ret (e_andV (b := true) (c := true) (e_bi2 (e_var rfl) e_c (bi_isi ty_int (kit_ty (by decide +kernel)))) fun _ => e_notV (b := false) (e_bi2 (e_var rfl) e_c (bi_isi ty_int (kit_ty (by decide +kernel))))) q
theorem f_is_count (T : En K mg) : Cal P w K mg "is_count" 2 ["value"] (spT (fun i : Int => [tI i]) (fun i => tB (decide (i ≥ 0)))) := by
  have S : FnScope ["value"] ["value"] d_is_count.scope := ⟨rfl, rfl, rfl, by decide +kernel, rfl, by decide +kernel, by decide +kernel⟩
  refine Cal.mk' (n := 0) T 1 1 rfl rfl rfl rfl rfl S rfl (fun _ => rfl) (fun _ _ _ _ _ _ us hl => match us, hl with | [_], _ => rfl) fun base cdv A outer s H EX hr => ⟨_, (pss_one (ps_ret (pe_and (pe_f (f_is_integer T) hr rfl (pa_cons (pv 0) pa_nil)) (pe_one (pe_cmpR op_ge (pv 0) pe_int (nomark _)))))), ?_⟩
  intro i F B Q q
  exact n_ret (e_andV (b := true) (c := decide (i ≥ 0)) (e_call i (ea_cons (e_var rfl) ea_nil)) fun _ => e_op0 (e_var rfl) e_c) q
theorem f_is_text (T : En K mg) : Cal P w K mg "is_text" 1 ["value"] (spT (fun s : {s : Str // TextOk s} => [tS s.1]) (fun _ => tB true)) := by
  have S : FnScope ["value", "sign"] ["value"] d_is_text.scope := ⟨rfl, rfl, rfl, by decide +kernel, rfl, by decide +kernel, by decide +kernel⟩
  refine Cal.mk' (n := 1) T 2 2 rfl rfl rfl rfl rfl S rfl (fun _ => rfl) (fun _ _ _ _ _ _ us hl => match us, hl with | [_], _ => rfl) fun base cdv A outer s H EX hr => ⟨_, (pss_one (ps_ret (pe_and (pe_callB call_isi rfl T.isinstance bo_isinstance (pa_cons (pv 0) (pa_cons (pe_ty T.str_ rfl bo_str) pa_nil))) (pe_and (pe_cmpR op_le (pe_callB call_len rfl T.len bo_len (pa_cons (pv 0) pa_nil)) (pe_gint T.MOST_SIGNS rfl) (nomark _)) (pe_one (pe_callB (cr_all rfl) rfl T.all bo_all (pa_cons (pe_lc (own := [("sign", 1)]) rfl S.nd (pi_str (pv 0)) (blkOk_by (own := [("sign", 1)]) (N := ["value", "sign"]) (sc := d_is_text.scope) (by decide +kernel)) (fun _ _ _ _ _ => (pg_name (i := 1) S.nd rfl (Or.inl rfl))) (fun _ _ _ _ _ => pts_nil) (fun _ _ _ _ _ => (pe_cmpR op_inS (pv 1) (pe_gstr T.SIGNS rfl) rfl))) pa_nil))))))), ?_⟩
  intro s F B Q q
  have hl : ((s.1.length : Nat) : Int) ≤ 8 := by have := s.2.1; omega
  refine n_ret (e_andV (b := true) (c := true) (e_bi2 (e_var rfl) e_c (bi_isi ty_str (kit_ty (by decide +kernel)))) fun _ => e_andV (b := true) (c := true) ((e_op0 (e_bi1 (e_var rfl) (bi_lenS (by have := s.2.1; omega))) e_c).to (congrArg tB (decide_eq_true hl))) fun _ => ?_) q
  refine (e_allC (xs := s.1.cps.toList) (f := fun c => decide (c ∈ signs.cps.toList)) (en_map (f := fun c => tS ⟨#[c]⟩) (src_str (e_var rfl)) ?_ fun c hc => ⟨_, tc_name (by decide), e_inS (e_var rfl) e_c⟩)).to ?_
  · rw [Array.length_toList]
    exact Nat.le_trans s.2.1 (by decide)
  · exact congrArg tB (List.all_eq_true.mpr fun c hc => decide_eq_true (s.2.2 c hc))
theorem f_is_list (T : En K mg) : Cal P w K mg "is_list" 1 ["value"] (spT (fun x : Bool × List Ty => [tSq x.1 x.2]) (fun _ => tB true)) := by
  have S : FnScope ["value"] ["value"] d_is_list.scope := ⟨rfl, rfl, rfl, by decide +kernel, rfl, by decide +kernel, by decide +kernel⟩
  refine Cal.mk' (n := 0) T 3 3 rfl rfl rfl rfl rfl S rfl (fun _ => rfl) (fun _ _ _ _ _ _ us hl => match us, hl with | [_], _ => rfl) fun base cdv A outer s H EX hr => ⟨_, (pss_one (ps_ret (pe_callB call_isiT rfl T.isinstance bo_isinstance (pa_cons (pv 0) (pa_cons (pe_tup (pa_cons (pe_ty T.list rfl bo_list) (pa_cons (pe_ty T.tuple rfl bo_tuple) pa_nil))) pa_nil))))), ?_⟩
  rintro ⟨tup, ts⟩ F B Q q
  cases tup with
  | true => exact n_ret (e_bi2 (e_var rfl) (e_tup (ea_cons e_c (ea_cons e_c ea_nil)) (by decide)) (bi_isiT ty_tup (kitAny_cons (kit_ty (b := "list") (r := false) (by decide +kernel)) (fun _ => kitAny_cons (kit_ty (b := "tuple") (r := true) (by decide +kernel)) (fun z => nomatch z) fun _ => rfl) fun z => nomatch z))) q
  | false => exact n_ret (e_bi2 (e_var rfl) (e_tup (ea_cons e_c (ea_cons e_c ea_nil)) (by decide)) (bi_isiT ty_list (kitAny_cons (kit_ty (b := "list") (r := true) (by decide +kernel)) (fun z => nomatch z) fun _ => rfl))) q
theorem f_is_tuple_of (T : En K mg) : Cal P w K mg "is_tuple_of" 1 ["value", "size"] (spT (fun x : List Ty × Nat => [tT x.1, tn x.2]) (fun x => tB (decide (x.1.length = x.2)))) := by
  have S : FnScope ["value", "size"] ["value", "size"] d_is_tuple_of.scope := ⟨rfl, rfl, rfl, by decide +kernel, rfl, by decide +kernel, by decide +kernel⟩
  refine Cal.mk' (n := 0) T 4 4 rfl rfl rfl rfl rfl S rfl (fun _ => rfl) (fun _ _ _ _ _ _ us hl => match us, hl with | [_, _], _ => rfl) fun base cdv A outer s H EX hr => ⟨_, (pss_one (ps_ret (pe_and (pe_callB call_isi rfl T.isinstance bo_isinstance (pa_cons (pv 0) (pa_cons (pe_ty T.tuple rfl bo_tuple) pa_nil))) (pe_one (pe_cmpR op_eq (pe_callB call_len rfl T.len bo_len (pa_cons (pv 0) pa_nil)) (pv 1) (nomark _)))))), ?_⟩
  rintro ⟨ts, n⟩ F B Q q
  exact n_ret (e_andV (b := true) (c := decide (ts.length = n)) (e_bi2 (e_var rfl) e_c (bi_isi ty_tup (kit_ty (by decide +kernel)))) fun _ => (e_eq (e_bi1 (e_var rfl) bi_len) (e_var rfl) rfl).to (congrArg tB vnat)) q
theorem f_is_step (T : En K mg) : Cal P w K mg "is_step" 3 ["houses", "house", "value"] (spT (fun x : {x : Nat × Nat × Ev // StepOk x.1 x.2.1 x.2.2} => [tn x.1.1, tn x.1.2.1, tEv x.1.2.2]) (fun _ => tB true)) := by
  have S : FnScope ["houses", "house", "value"] ["houses", "house", "value"] d_is_step.scope := ⟨rfl, rfl, rfl, by decide +kernel, rfl, by decide +kernel, by decide +kernel⟩
  refine Cal.mk' (n := 0) T 5 5 rfl rfl rfl rfl rfl S rfl (fun _ => rfl) (fun _ _ _ _ _ _ us hl => match us, hl with | [_, _, _], _ => rfl) fun base cdv A outer s H EX hr => ⟨_, (pss_cons (ps_if (pt_val (pe_f (f_is_tuple_of T) (hr.mono (by decide)) rfl (pa_cons (pv 2) (pa_cons pe_int pa_nil)))) (pss_one (ps_ret (pe_or (pe_and (pe_cmpR op_eq (pe_ix ix_tup (pv 2) pe_int (fun _ _ => rfl)) (pe_gstr T.DO rfl) (nomark _)) (pe_one (pe_f (f_is_text T) (hr.mono (by decide)) rfl (pa_cons (pe_ix ix_tup (pv 2) pe_int (fun _ _ => rfl)) pa_nil)))) (pe_one (pe_and (pe_cmpR op_eq (pe_ix ix_tup (pv 2) pe_int (fun _ _ => rfl)) (pe_gstr T.HEAR rfl) (nomark _)) (pe_one (pe_f (f_is_count T) hr rfl (pa_cons (pe_ix ix_tup (pv 2) pe_int (fun _ _ => rfl)) pa_nil)))))))) pss_nil)
      (pss_cons (ps_if (PW.pt (pw_or (pt_not (pt_val (pe_f (f_is_tuple_of T) (hr.mono (by decide)) rfl (pa_cons (pv 2) (pa_cons pe_int pa_nil))))) (pw_or (pt_cmpR op_ne (pe_ix ix_tup (pv 2) pe_int (fun _ _ => rfl)) (pe_gstr T.SAY rfl) (nomark _)) (pw_or (pt_not (pt_val (pe_f (f_is_count T) hr rfl (pa_cons (pe_ix ix_tup (pv 2) pe_int (fun _ _ => rfl)) pa_nil)))) (pw_or1 (pt_not (pt_val (pe_f (f_is_count T) hr rfl (pa_cons (pe_ix ix_tup (pv 2) pe_int (fun _ _ => rfl)) pa_nil))))))))) (pss_one (ps_ret pe_bl)) pss_nil)
      (pss_one (ps_ret (pe_and (pe_cmpR op_lt (pe_ix ix_tup (pv 2) pe_int (fun _ _ => rfl)) (pv 0) (nomark _)) (pe_and (pe_cmpR op_ne (pe_ix ix_tup (pv 2) pe_int (fun _ _ => rfl)) (pv 1) (nomark _)) (pe_one (pe_f (f_is_text T) (hr.mono (by decide)) rfl (pa_cons (pe_ix ix_tup (pv 2) pe_int (fun _ _ => rfl)) pa_nil))))))))), ?_⟩
  rintro ⟨⟨n, h, e⟩, ok⟩ F B Q q
  cases e with
  | do_ s =>
    refine n_seq (n_ifT (et_B (e_call ([tS "do", tS s], 2) (ea_cons (e_var rfl) (ea_cons e_c ea_nil)))) ?_)
    exact n_ret (e_orV (b := true) (c := true) (e_andV (b := true) (c := true) (e_eqT (e_ixT (e_var rfl) e_c rfl) e_c rfl rfl) fun _ => e_call ⟨s, ok⟩ (ea_cons (e_ixT (e_var rfl) e_c rfl) ea_nil)) fun z => nomatch z) q
  | hear l =>
    refine n_seq (n_ifT (et_B (e_call ([tS "hear", tn l], 2) (ea_cons (e_var rfl) (ea_cons e_c ea_nil)))) ?_)
    exact n_ret (e_orV (b := false) (c := true) (e_andV (b := false) (c := true) (e_eqF (e_ixT (e_var rfl) e_c rfl) e_c rfl (s_ne (by decide))) fun z => nomatch z) fun _ => e_andV (b := true) (c := true) (e_eqT (e_ixT (e_var rfl) e_c rfl) e_c rfl rfl) fun _ => (e_call (l : Int) (ea_cons (e_ixT (e_var rfl) e_c rfl) ea_nil)).to (congrArg tB (decide_eq_true (by omega)))) q
  | say l g t =>
    obtain ⟨h1, h2, h3⟩ := ok
    have c0 : ∀ k : Nat, tB (decide ((k : Int) ≥ 0)) = tB true := fun k => congrArg tB (decide_eq_true (by omega))
    refine n_seq (n_ifF (et_B (e_call ([tS "say", tn l, tn g, tS t], 2) (ea_cons (e_var rfl) (ea_cons e_c ea_nil)))) (n_next ?_))
    refine n_seq (n_ifF (et_or (b := false) (c := false) (et_not (b := true) (et_B ?_)) fun _ => et_or (b := false) (c := false) (et_test ?_) fun _ => et_or (b := false) (c := false) (et_not (b := true) (et_B ?_)) fun _ => et_not (b := true) (et_B ?_)) (n_next ?_))
    · exact e_call ([tS "say", tn l, tn g, tS t], 4) (ea_cons (e_var rfl) (ea_cons e_c ea_nil))
    · exact e_neF (e_ixT (e_var rfl) e_c rfl) e_c rfl rfl
    · exact (e_call (l : Int) (ea_cons (e_ixT (e_var rfl) e_c rfl) ea_nil)).to (c0 l)
    · exact (e_call (g : Int) (ea_cons (e_ixT (e_var rfl) e_c rfl) ea_nil)).to (c0 g)
    refine n_ret (e_andV (b := true) (c := true) ((e_op0 (e_ixT (e_var rfl) e_c rfl) (e_var rfl)).to ?_) fun _ => e_andV (b := true) (c := true) (e_neT (e_ixT (e_var rfl) e_c rfl) (e_var rfl) rfl (n_ne h2)) fun _ => e_call ⟨t, h3⟩ (ea_cons (e_ixT (e_var rfl) e_c rfl) ea_nil)) q
    · have h1' : ((g : Nat) : Int) < (n : Int) := by omega
      exact congrArg tB (decide_eq_true h1')
end
end K89
set_option Elab.async false
set_option linter.all false
set_option maxRecDepth 100000
set_option maxHeartbeats 4000000
/-! K89W2: the events' places, the picture's own words. -/
namespace K89
open PySem PySem.Spec PyProof.Rows L2
section
variable {P : Program} {w : World} {K : PySem.W.Frag} {mg : Str → Option Value}
theorem tRow_len {tup : Bool} {r : Row} : (r.map tEv).length = r.length := by rw [List.length_map]
def small (rs : List Row) : Prop := rs.length ≤ 10 ∧ (∀ r ∈ rs, r.length ≤ 100)
theorem evs_len : ∀ {rs : List Row} {h : Nat}, (∀ r ∈ rs, r.length ≤ 100) → (evs h rs).length ≤ 100 * rs.length
  | [], _, _ => Nat.le_refl _
  | r :: rs, h, k => by
    show (((List.range r.length).map fun p => (h, p)) ++ evs (h + 1) rs).length ≤ _
    have h1 := k r (List.mem_cons_self ..)
    have h2 := evs_len (rs := rs) (h := h + 1) fun q hq => k q (List.mem_cons_of_mem _ hq)
    rw [List.length_append, List.length_map, List.length_range, List.length_cons]
    omega
theorem f_events_in (T : En K mg) : Cal P w K mg "events_in" 1 ["rows"] (spT (fun x : {rs : List Row // small rs} => [tRows true x.1]) (fun x => tL ((evs 0 x.1).map tPr))) := by
  have S : FnScope ["rows", "found", "house", "row", "place"] ["rows"] d_events_in.scope := ⟨rfl, rfl, rfl, by decide +kernel, rfl, by decide +kernel, by decide +kernel⟩
  refine Cal.mk' (n := 4) T 9 9 rfl rfl rfl rfl rfl S rfl (fun _ => rfl) (fun _ _ _ _ _ _ us hl => match us, hl with | [_], _ => rfl) fun base cdv A outer s H EX hr => ⟨_, (pss_cons (ps_set (i := 1) S.nd rfl (Or.inl rfl) (pe_lst pa_nil))
      (pss_cons (ps_for PassesOwn.never rfl (pi_enumT rfl T.enumerate (pa_cons (pv 0) pa_nil)) (pg_tup rfl (pgs_cons (pg_name (i := 2) S.nd rfl (Or.inr rfl)) (pgs_cons (pg_name (i := 3) S.nd rfl (Or.inl rfl)) pgs_nil))) (pss_one (ps_expr (pe_bm PySem.F.plainAttrs_list PySem.F.slot_list_extend PySem.F.type_list_extend mt_extend (pv 1) (pa_cons (pe_lc (own := [("place", 4)]) rfl S.nd (pi_range1 rfl T.range (pa_cons (pe_callB call_len rfl T.len bo_len (pa_cons (pv 3) pa_nil)) pa_nil)) (blkOk_by (own := [("place", 4)]) (N := ["rows", "found", "house", "row", "place"]) (sc := d_events_in.scope) (by decide +kernel)) (fun _ _ _ _ _ => (pg_name (i := 4) S.nd rfl (Or.inl rfl))) (fun _ _ _ _ _ => pts_nil) (fun _ _ _ _ _ => (pe_tup (pa_cons (pv 2) (pa_cons (pv 4) pa_nil))))) pa_nil)))))
      (pss_one (ps_ret (pv 1))))), ?_⟩
  rintro ⟨rs, hs⟩ F B Q q
  refine n_seq (n_asgN (en_lst ea_nil (by decide)) fun l => ?_)
  refine n_seq (n_for (α := List (Nat × Nat)) (fun i x => x = evs 0 (rs.take i)) (fun _ => [some (tRows true rs), some (tR l), none, none, none]) (fun x => [(l, mL (x.map tPr))]) (src_enumT (ts := rs.map (tRow true)) (ea_cons (e_var rfl) ea_nil)) [] rfl rfl rfl (fun B' eB i t x ht hx => ?_) fun x hx => ?_)
  · obtain ⟨u, hu, rfl⟩ := enum_at ht
    rw [List.getElem?_map] at hu
    cases er : rs[i]? with
    | none => rw [er] at hu; cases hu
    | some r =>
      rw [er] at hu
      have hu' := Option.some.inj hu
      subst hu' hx
      have hr1 : r.length ≤ 100 := hs.2 r (List.mem_of_getElem? er)
      refine tg_2 (n_ext (j := 0) (us := (List.range r.length).map fun p => tPr (i, p)) rfl (e_var rfl) (EN.l (en_map (xs := List.range r.length) (f := tn) (u := fun p => tPr (i, p)) (src_range1 (ea_cons ((e_bi1 (e_var rfl) bi_len).to ?_) ea_nil) (by omega)) (by rw [List.length_range]; omega) fun p hp => ⟨_, tc_name (by decide), ?_⟩)) ?_ ?_)
      · rw [List.length_map]
      · exact e_pr (e_var rfl) (e_var rfl)
      · rw [List.length_map, List.length_map, List.length_range]
        have := evs_len (rs := rs.take i) (h := 0) fun q hq => hs.2 q (List.mem_of_mem_take hq)
        have h4 : (rs.take i).length ≤ rs.length := by rw [List.length_take]; omega
        have h5 := hs.1
        omega
      · refine n_fg [2, 3] (li (evs 0 (rs.take (i + 1))) rfl rfl ?_)
        rw [evs_take er, List.map_append, List.map_map]
        rfl
  · subst hx
    have e : rs.take (enumT (rs.map (tRow true))).length = rs := by
      rw [enum_len, List.length_map]
      exact List.take_length
    rw [e]
    exact n_retL (i := 1) (j := 0) rfl rfl q
end
end K89
set_option Elab.async false
set_option linter.all false
set_option maxRecDepth 100000
set_option maxHeartbeats 4000000
/-! K89W3: the picture's own words. -/
namespace K89
open PySem PySem.Spec PyProof.Rows L2
section
variable {P : Program} {w : World} {K : PySem.W.Frag} {mg : Str → Option Value}
theorem Rs.small {rs : List Row} (R : Rs rs) : small rs := ⟨by have := R.n4; omega, fun r hr => by have := R.row hr; omega⟩
theorem t_dh : ("do" : Str) ≠ "hear" := by decide
theorem t_ds : ("do" : Str) ≠ "say" := by decide
theorem t_sh : ("say" : Str) ≠ "hear" := by decide
theorem t_hs : ("hear" : Str) ≠ "say" := by decide
structure Po where
  as : List (Str × Ty)
  rs : List Row
  b : Bool
  ho : dLook (κ := Str) "own_rows" as = some (tRows true rs)
  R : Rs rs
theorem fm_take {xs : List (Nat × Nat)} {f : Nat × Nat → Option (Nat × Nat × Nat)} {i : Nat} {z : Nat × Nat} (h : xs[i]? = some z) : (xs.take (i + 1)).filterMap f = (xs.take i).filterMap f ++ (f z).toList := by
  rw [List.take_succ, h, List.filterMap_append]
  show _ ++ List.filterMap f [z] = _
  cases q : f z <;> simp [q]
theorem fm_new {b : Bool} {rs : List Row} {i h p l : Nat} (R : Rs rs) (hz : (evs 0 rs)[i]? = some (h, p)) (hl : letAt b rs h p = some l) : l ∉ (((evs 0 rs).take i).filterMap (plOf b rs)).map (·.1) := by
  intro m
  have nd := R.nd b
  unfold pls at nd
  have e : evs 0 rs = (evs 0 rs).take i ++ (h, p) :: (evs 0 rs).drop (i + 1) := by
    have hi := (List.getElem?_eq_some_iff.mp hz).1
    have e2 := (List.getElem?_eq_some_iff.mp hz).2
    rw [← e2, List.getElem_cons_drop, List.take_append_drop]
  rw [e, List.filterMap_append, List.map_append] at nd
  have hq : plOf b rs (h, p) = some (l, h, p) := by
    unfold plOf
    have : (evAt rs h p).bind (Ev.let_ b) = some l := hl
    show ((evAt rs h p).bind (Ev.let_ b)).map _ = _
    rw [this]
    rfl
  rw [List.filterMap_cons, hq] at nd
  have := (List.nodup_append.mp nd).2.2 l m l (by rw [List.map_cons]; exact List.mem_cons_self ..)
  exact this rfl
theorem m_places_of (T : En K mg) : CalM P w K mg (He.ma K (cP K) "places_of") 2 ["self", "word"] (spT (fun x : Po => [tO (cP K) x.as, tS (wordOf x.b)]) (fun x => tD (plK x.b x.rs))) := by
  have S : FnScope ["self", "word", "found", "house", "place"] ["self", "word"] d_P_places_of.scope := ⟨rfl, rfl, rfl, by decide +kernel, rfl, by decide +kernel, by decide +kernel⟩
  refine CalM.mk' (x := "places_of") (n := 3) T 11 rfl rfl rfl rfl S rfl (fun _ => rfl) (fun _ _ _ _ _ _ us hl => match us, hl with | [_, _], _ => rfl) fun base cdv A outer s H EX hr => ⟨_, (pss_cons (ps_set (i := 2) S.nd rfl (Or.inl rfl) pe_dnewK)
      (pss_cons (ps_for PassesOwn.never rfl (pi_list (pe_f (f_events_in T) hr rfl (pa_cons (pe_fld (pv 0) rfl) pa_nil))) (pg_tup rfl (pgs_cons (pg_name (i := 3) S.nd rfl (Or.inl rfl)) (pgs_cons (pg_name (i := 4) S.nd rfl (Or.inl rfl)) pgs_nil))) (pss_one (ps_if (pt_cmpR op_eq (pe_ix ix_tup (pe_ix ix_tup (pe_ix ix_tup (pe_fld (pv 0) rfl) (pv 3) (fun _ _ => rfl)) (pv 4) (fun _ _ => rfl)) pe_int (fun _ _ => rfl)) (pv 1) (nomark _)) (pss_one (ps_dput (hu_of hr) (pv 2) (pe_ix ix_tup (pe_ix ix_tup (pe_ix ix_tup (pe_fld (pv 0) rfl) (pv 3) (fun _ _ => rfl)) (pv 4) (fun _ _ => rfl)) pe_int (fun _ _ => rfl)) (pe_tup (pa_cons (pv 3) (pa_cons (pv 4) pa_nil))) rfl)) pss_nil)))
      (pss_one (ps_fz (ps_ret (pv 2)))))), ?_⟩
  rintro ⟨as, rs, b, ho, R⟩ F B Q q
  refine n_seq (n_asgN en_dnew fun l => ?_)
  refine n_seq (n_for (α := List (Nat × Nat × Nat)) (fun i x => x = ((evs 0 rs).take i).filterMap (plOf b rs)) (fun _ => [some (tO (cP K) as), some (tS (wordOf b)), some (tR l), none, none]) (fun x => [(l, mD (x.map eK))])
    (src_list (ts := (evs 0 rs).map tPr) (e_f ⟨rs, R.small⟩ (ea_cons (e_fld (e_var rfl) T.cls T.own_rows ho) ea_nil))) [] rfl rfl rfl (fun B' eB i t x ht hx => ?_) fun x hx => ?_)
  · rw [List.getElem?_map] at ht
    cases ez : (evs 0 rs)[i]? with
    | none => rw [ez] at ht; cases ht
    | some z =>
      obtain ⟨h, p⟩ := z
      rw [ez] at ht
      have ht' := Option.some.inj ht
      subst ht' hx
      obtain ⟨_, e, he⟩ := mem_evs.mp (List.mem_of_getElem? ez)
      rw [Nat.sub_zero] at he
      obtain ⟨r, hr, hp⟩ := evAt_split he
      have len : (((evs 0 rs).take i).filterMap (plOf b rs)).length ≤ 13 := Nat.le_trans (List.length_filterMap_le ..) (by rw [List.length_take]; have := R.tot; omega)
      have ev {Γ : Gam} {M : List Mut1} (h0 : Γ[0]? = some (some (tO (cP K) as))) (h3 : Γ[3]? = some (some (tn h))) (h4 : Γ[4]? = some (some (tn p))) : E (tOp (rIxT K) (tOp (rIxT K) (tFld K (tVar 0) "own_rows") (tVar 3)) (tVar 4)) Γ M (tEv e) :=
        e_ixT (e_ixT (e_fld (e_var h0) T.cls T.own_rows ho) (e_var h3) (rows_at hr)) (e_var h4) (row_at hp)
      refine tg_2 ?_
      by_cases hw : e.tag = wordOf b
      · obtain ⟨l0, h1, h2⟩ : ∃ l0, e.let_ b = some l0 ∧ atI e.tys 1 = some (tn l0) := by
          cases e with
          | do_ s => cases b <;> exact absurd hw (by first | exact t_dh | exact t_ds)
          | say l0 g t =>
            cases b with
            | true => exact ⟨l0, rfl, rfl⟩
            | false => exact absurd hw t_sh
          | hear l0 =>
            cases b with
            | false => exact ⟨l0, rfl, rfl⟩
            | true => exact absurd hw t_hs
        have hl : letAt b rs h p = some l0 := by
          unfold letAt
          rw [he]
          exact h1
        have hz : plOf b rs (h, p) = some (l0, h, p) := by
          show ((evAt rs h p).bind (Ev.let_ b)).map _ = _
          have : (evAt rs h p).bind (Ev.let_ b) = some l0 := hl
          rw [this]
          rfl
        refine n_ifT (et_test (e_eqT (e_ixT (ev (by rfl) (by rfl) (by rfl)) e_c (tag_at e)) (e_var rfl) rfl (by rw [hw]))) ?_
        refine n_dput (j := 0) (k := kn l0) (kvs := (((evs 0 rs).take i).filterMap (plOf b rs)).map eK) rfl (e_pr (e_var rfl) (e_var rfl)) (e_var rfl) (e_ixT (ev (by rfl) (by rfl) (by rfl)) e_c h2) (by rw [List.length_map]; omega) (dLook_eK_none (fm_new R ez hl)) ?_
        refine n_fg [3, 4] (li _ (by rw [fm_take ez, hz]) rfl ?_)
        rw [List.map_append]
        rfl
      · have h1 : e.let_ b = none := by
          cases e with
          | do_ s => rfl
          | say l0 g t =>
            cases b with
            | true => exact absurd rfl hw
            | false => rfl
          | hear l0 =>
            cases b with
            | false => exact absurd rfl hw
            | true => rfl
        have hz : plOf b rs (h, p) = none := by
          show ((evAt rs h p).bind (Ev.let_ b)).map _ = _
          rw [he]
          show (e.let_ b).map _ = _
          rw [h1]
          rfl
        refine n_ifF (et_test (e_eqF (e_ixT (ev (by rfl) (by rfl) (by rfl)) e_c (tag_at e)) (e_var rfl) rfl (s_ne hw))) (n_next ?_)
        exact n_fg [3, 4] (li _ (by rw [fm_take ez, hz]; exact (List.append_nil _).symm) rfl rfl)
  · subst hx
    rw [List.length_map, List.take_length]
    exact n_retD (i := 2) (j := 0) rfl rfl q
theorem m_rows (T : En K mg) : CalM P w K mg (He.ma K (cP K) "rows") 1 ["self"] (spT (fun x : Pc => [x.t K]) (fun x => tRows false x.rs)) := by
  have S : FnScope ["self", "row"] ["self"] d_P_rows.scope := ⟨rfl, rfl, rfl, by decide +kernel, rfl, by decide +kernel, by decide +kernel⟩
  refine CalM.mk' (x := "rows") (n := 1) T 12 rfl rfl rfl rfl S rfl (fun _ => rfl) (fun _ _ _ _ _ _ us hl => match us, hl with | [_], _ => rfl) fun base cdv A outer s H EX hr => ⟨_, (pss_one (ps_ret (pe_lc (own := [("row", 1)]) rfl S.nd (pi_tup (pe_fld (pv 0) rfl)) (blkOk_by (own := [("row", 1)]) (N := ["self", "row"]) (sc := d_P_rows.scope) (by decide +kernel)) (fun _ _ _ _ _ => (pg_name (i := 1) S.nd rfl (Or.inl rfl))) (fun _ _ _ _ _ => pts_nil) (fun _ _ _ _ _ => (pe_callTy (call_lOfK (K := K) rfl) rfl T.list bo_list (pa_cons (pv 1) pa_nil)))))), ?_⟩
  intro x F B Q q
  refine n_ret (EN.l (en_map (f := tRow true) (u := tRow false) (src_tup (e_fld (e_var rfl) T.cls T.own_rows x.ok.own)) (by have := x.R.n4; omega) fun r hr => ⟨_, tc_name (by decide), ?_⟩)) q
  exact EN.l (en_bi1 (e_var rfl) (bin_list (tup := true)))
theorem m_letters (T : En K mg) : CalM P w K mg (He.ma K (cP K) "letters") 1 ["self"] (spT (fun x : Pc => [x.t K]) (fun x => tEx (fun ms : List Nat => ms.Perm ((pls true x.rs).map (·.1)) ∧ ms.Pairwise (· ≤ ·)) fun ms => tL (ms.map tn))) := by
  have S : FnScope ["self"] ["self"] d_P_letters.scope := ⟨rfl, rfl, rfl, by decide +kernel, rfl, by decide +kernel, by decide +kernel⟩
  refine CalM.mk' (x := "letters") (n := 0) T 13 rfl rfl rfl rfl S rfl (fun _ => rfl) (fun _ _ _ _ _ _ us hl => match us, hl with | [_], _ => rfl) fun base cdv A outer s H EX hr => ⟨_, (pss_one (ps_ret (pe_callB (call_sDI rfl) rfl T.sorted bo_sorted (pa_cons (pe_fld (pv 0) rfl) pa_nil)))), ?_⟩
  intro x F B Q q
  refine n_ret (EN.lx (en_bi1 (e_fld (e_var rfl) T.cls T.sayings x.ok.say) (bin_sortedD ?_ ?_))) q
  · unfold plK
    rw [List.map_map, List.map_map]
    rfl
  · rw [List.length_map]
    have := x.R.pls true
    omega
theorem m_said (T : En K mg) : CalM P w K mg (He.ma K (cP K) "said") 3 ["self", "letter"] (spT (fun x : {x : Pc × Nat × Nat × Nat // letAt true x.1.rs x.2.2.1 x.2.2.2 = some x.2.1} => [x.1.1.t K, tn x.1.2.1]) (fun x => tPr x.1.2.2)) := by
  have S : FnScope ["self", "letter"] ["self", "letter"] d_P_said.scope := ⟨rfl, rfl, rfl, by decide +kernel, rfl, by decide +kernel, by decide +kernel⟩
  refine CalM.mk' (x := "said") (n := 0) T 14 rfl rfl rfl rfl S rfl (fun _ => rfl) (fun _ _ _ _ _ _ us hl => match us, hl with | [_, _], _ => rfl) fun base cdv A outer s H EX hr => ⟨_, (pss_cons (ps_if (PW.pt (pw_or (pt_not (pt_val (pe_f (f_is_count T) hr rfl (pa_cons (pv 1) pa_nil)))) (pw_or1 (pt_cmp (pc_dnotin (hu_of hr) (pv 1) (pe_fld (pv 0) rfl)) rfl)))) pss_never pss_nil)
      (pss_one (ps_ret (pe_dget (hu_of hr) (pe_fld (pv 0) rfl) (pv 1) (fun _ _ => rfl))))), ?_⟩
  rintro ⟨⟨x, l, h, p⟩, hl⟩ F B Q q
  have hk := dLook_pl x.R hl
  refine n_seq (n_ifF (et_or (b := false) (c := false) (et_not (b := true) (et_B ?_)) fun _ => et_B ?_) (n_next ?_))
  · exact (e_f (l : Int) (ea_cons (e_var rfl) ea_nil)).to (congrArg tB (decide_eq_true (by omega)))
  · exact (e_dnotin (k := kn l) (e_var rfl) (e_fld (e_var rfl) T.cls T.sayings x.ok.say)).to (by rw [hk]; rfl)
  · exact n_ret (e_dget (k := kn l) (e_fld (e_var rfl) T.cls T.sayings x.ok.say) (e_var rfl) hk) q
theorem m_heard (T : En K mg) : CalM P w K mg (He.ma K (cP K) "heard") 4 ["self", "letter"] (spT (fun x : {x : Pc × Nat × Nat × Nat // letAt true x.1.rs x.2.2.1 x.2.2.2 = some x.2.1} => [x.1.1.t K, tn x.1.2.1]) (fun x => tOpt (dLook (kn x.1.2.1) (plK false x.1.1.rs)))) := by
  have S : FnScope ["self", "letter"] ["self", "letter"] d_P_heard.scope := ⟨rfl, rfl, rfl, by decide +kernel, rfl, by decide +kernel, by decide +kernel⟩
  refine CalM.mk' (x := "heard") (n := 0) T 15 rfl rfl rfl rfl S rfl (fun _ => rfl) (fun _ _ _ _ _ _ us hl => match us, hl with | [_, _], _ => rfl) fun base cdv A outer s H EX hr => ⟨_, (pss_cons (ps_expr (pe_m T.cls (T.meth 86) (m_said T) hr (pv 0) (pa_cons (pv 1) pa_nil)))
      (pss_one (ps_ret (pe_dget1 (hu_of hr) (pe_fld (pv 0) rfl) (pv 1) ⟨rfl, rfl, rfl, rfl⟩)))), ?_⟩
  rintro ⟨⟨x, l, h, p⟩, hl⟩ F B Q q
  refine n_seq (n_drop (e_m ⟨(x, l, h, p), hl⟩ (e_var rfl) (ea_cons (e_var rfl) ea_nil) (x.ok.no _ (by decide))) ?_)
  exact n_ret (e_get1 (k := kn l) (e_fld (e_var rfl) T.cls T.hearings x.ok.hea) (e_var rfl)) q
theorem g_houses (T : En K mg) : CalG P w K mg 1 (spT (fun x : Pc => [x.t K]) fun x => tn x.rs.length) := by
  have S : FnScope ["self"] ["self"] cH := ⟨rfl, rfl, rfl, by decide +kernel, rfl, by decide +kernel, by decide +kernel⟩
  obtain ⟨h1, fd, Fd⟩ := T.prop
  refine ⟨prA K, pgA K, fd, h1, Fd.bindsN fun _ _ _ _ _ _ us hl => (match us, hl with | [_], _ => rfl), fun base => Fd.ok S (fun vs H Q E h => ?_) fun cdv A outer s H vs Q E hr h => ⟨_, PSs.nox (pss_one (ps_ret (pe_callB call_len rfl T.len bo_len (pa_cons (pe_fld (pv 0) rfl) pa_nil)))), body_run (as := fun x : Pc => [x.t K]) (r := fun x => tn x.rs.length) (n := 0) (N := ["self"]) (ps := ["self"]) ?_ rfl (fun _ => rfl) h⟩⟩
  · obtain ⟨y, G, _, a, _⟩ := h
    rw [a.length]
    rfl
  · intro x F B Q q
    exact n_ret ((e_bi1 (e_fld (e_var rfl) T.cls T.own_rows x.ok.own) bi_len).to (by rw [List.length_map])) q
theorem f_is_house (T : En K mg) : Cal P w K mg "is_house" 3 ["picture", "value"] (spT (fun x : Pc × Int => [x.1.t K, tI x.2]) (fun x => tB (decide (x.2 ≥ 0) && decide (x.2 < x.1.rs.length)))) := by
  have S : FnScope ["picture", "value"] ["picture", "value"] d_is_house.scope := ⟨rfl, rfl, rfl, by decide +kernel, rfl, by decide +kernel, by decide +kernel⟩
  refine Cal.mk' (n := 0) T 16 10 rfl rfl rfl rfl rfl S rfl (fun _ => rfl) (fun _ _ _ _ _ _ us hl => match us, hl with | [_, _], _ => rfl) fun base cdv A outer s H EX hr => ⟨_, (pss_one (ps_ret (pe_and (pe_f (f_is_count T) hr rfl (pa_cons (pv 1) pa_nil)) (pe_one (pe_cmpR op_lt (pv 1) (pe_g T.cls (g_houses T) hr (pv 0) rfl) (nomark _)))))), ?_⟩
  rintro ⟨x, i⟩ F B Q q
  exact n_ret (e_andV (e_f i (ea_cons (e_var rfl) ea_nil)) fun _ => e_op0 (e_var rfl) (e_p x (e_var rfl))) q
end
end K89
set_option Elab.async false
set_option linter.all false
set_option maxRecDepth 100000
set_option maxHeartbeats 4000000
/-! K89W4: a line of houses, causes, clocks. -/
namespace K89
open PySem PySem.Spec PyProof.Rows L2
section
variable {F B : Hp} {Γ : Gam} {M : List Mut1} {m1 m2 : MTy} {tx ty te : TE} {t : Ty} {K : PySem.W.Frag} {nx bk ct : L2.St → Hp → Prop} {rt : VK}
/-- two new objects, one behind the other -/
theorem ea_NN (h1 : EN tx Γ M m1) (h2 : EN ty Γ M m2) {σ : L2.St} {H G : Hp} (s : Hs F B M H G) (g : Sl Γ σ G) {Q : List V → Hp → Prop} (k : ∀ p q H' G', Hs F B ((q, m2) :: (p, m1) :: M) H' G' → Er G G' → Q [.ref p, .ref q] H') : tCons tx (tCons ty tNil) σ H Q :=
  h1 F B σ H G s g _ fun p H1 G1 s1 e1 => by
    obtain ⟨y1, y2, o, y3, y4⟩ := s1.mm p m1 (List.mem_cons_self ..)
    refine h2 (upd F p o) B σ H1 G1 (s1.hide y3) (g.mono e1) _ fun q H2 G2 s2 e2 => ?_
    obtain ⟨z1, z2, o', z3, z4⟩ := s2.mm q m2 (List.mem_cons_self ..)
    have qp : p ≠ q := by
      intro e
      subst e
      rw [upd_same] at z1
      cases z1
    have s5 := ((s2.hide z3).swapF qp).show (by rw [upd_ne qp]; exact y1) (m1.mono e2 y4)
    have hq : F q = none := by
      rw [upd_ne (Ne.symm qp)] at z1
      exact z1
    exact k p q H2 G2 (s5.show hq z4) (e1.trans e2)
theorem n_tupNN {i j : Nat} (h1 : EN tx Γ M m1) (h2 : EN ty Γ M m2) (k : ∀ p q, N nx F B ((Γ.set i (some (tR p))).set j (some (tR q))) ((q, m2) :: (p, m1) :: M)) :
    N (tAsg (tTup (tCons tx (tCons ty tNil))) (gTup K 2 (gCons (gName i) (gCons (gName j) gNil))) ⟨nx, rt, bk, ct⟩) F B Γ M := fun σ H G s g =>
  by
    unfold tAsg tTup
    refine ea_NN h1 h2 s g fun p q H' G' s' e' => ⟨sz5 (by show 2 ≤ 100000; decide), fun a ha => ?_⟩
    obtain ⟨s2, e2⟩ := s'.new (o := .tup [.ref p, .ref q]) ha
    exact ⟨a, [.ref p, .ref q], rfl, SqT.of upd_same, rfl, .ref p, [.ref q], rfl, .ref q, [], rfl, rfl, k p q _ _ _ s2 (((g.mono (e'.trans e2)).set rfl i).set rfl j)⟩
end
section
variable {P : Program} {w : World} {K : PySem.W.Frag} {mg : Str → Option Value}
open Classical in
noncomputable def rdB (rs : List Row) (cs : List Nat) (h : Nat) : Bool := decide (Ready rs (fun h => cs.getD h 0) h)
open Classical in
theorem rdB_iff {rs : List Row} {cs : List Nat} {h : Nat} : rdB rs cs h = true ↔ Ready rs (fun h => cs.getD h 0) h := by
  unfold rdB
  rw [decide_eq_true_iff]
theorem say_of {rs : List Row} {h p l : Nat} (R : Rs rs) (q : evAt rs h p = some (.hear l)) : ∃ s p' t, evAt rs s p' = some (.say l h t) ∧ letAt true rs s p' = some l := by
  obtain ⟨s, p', t, e⟩ := R.good.heard h p l q
  exact ⟨s, p', t, e, by unfold letAt; rw [e]; rfl⟩
structure Rq where
  x : Pc
  cs : List Nat
  h : Nat
  hl : cs.length = x.rs.length
  hh : h < x.rs.length
theorem f_is_ready (T : En K mg) : Cal P w K mg "is_ready" 1 ["picture", "counts", "house"] (spT (fun y : Rq => [y.x.t K, tL (y.cs.map tn), tn y.h]) (fun y => tB (rdB y.x.rs y.cs y.h))) := by
  have S : FnScope ["picture", "counts", "house", "step", "sayer", "place"] ["picture", "counts", "house"] d_is_ready.scope := ⟨rfl, rfl, rfl, by decide +kernel, rfl, by decide +kernel, by decide +kernel⟩
  refine Cal.mk' (n := 3) T 17 11 rfl rfl rfl rfl rfl S rfl (fun _ => rfl) (fun _ _ _ _ _ _ us hl => match us, hl with | [_, _, _], _ => rfl) fun base cdv A outer s H EX hr => ⟨_, (pss_cons (ps_if (pt_cmpR op_ge (pe_ix ix_list (pv 1) (pv 2) (fun _ _ => rfl)) (pe_ix ix_tup (pe_fld (pv 0) rfl) (pv 2) (fun _ _ => rfl)) (nomark _)) (pss_one (ps_ret pe_bl)) pss_nil)
      (pss_cons (ps_set (i := 3) S.nd rfl (Or.inl rfl) (pe_ix ix_tup (pe_ix ix_tup (pe_fld (pv 0) rfl) (pv 2) (fun _ _ => rfl)) (pe_ix ix_list (pv 1) (pv 2) (fun _ _ => rfl)) (fun _ _ => rfl)))
      (pss_cons (ps_if (pt_cmpR op_ne (pe_ix ix_tup (pv 3) pe_int (fun _ _ => rfl)) (pe_gstr T.HEAR rfl) (nomark _)) (pss_one (ps_ret pe_bl)) pss_nil)
      (pss_cons (ps_asg (pe_dget (hu_of hr) (pe_fld (pv 0) rfl) (pe_ix ix_tup (pv 3) pe_int (fun _ _ => rfl)) (fun _ _ => rfl)) (pg_tup rfl (pgs_cons (pg_name (i := 4) S.nd rfl (Or.inl rfl)) (pgs_cons (pg_name (i := 5) S.nd rfl (Or.inl rfl)) pgs_nil))))
      (pss_one (ps_ret (pe_cmpR op_lt (pv 5) (pe_ix ix_list (pv 1) (pv 4) (fun _ _ => rfl)) (nomark _)))))))), ?_⟩
  rintro ⟨x, cs, h, hl, hh⟩ F B Q q
  obtain ⟨c, hc⟩ : ∃ c, cs[h]? = some c := ⟨_, List.getElem?_eq_getElem (by omega)⟩
  have gc : cs.getD h 0 = c := by rw [List.getD_eq_getElem?_getD, hc] <;> rfl
  have a1 : atI (cs.map tn) (h : Int) = some (tn c) := atI_n (by rw [List.getElem?_map, hc] <;> rfl)
  have a2 : atI ((sizes x.rs).map tn) (h : Int) = some (tn (sz x.rs h)) := atI_n (by rw [List.getElem?_map, sizes_at hh] <;> rfl)
  by_cases lt : c < sz x.rs h
  · obtain ⟨e, he⟩ := evAt_some lt
    obtain ⟨r, hr', hp⟩ := evAt_split he
    have z1 : ¬ ((c : Int) ≥ (sz x.rs h : Int)) := by omega
    refine n_seq (n_ifF (et_test ((e_op0 (e_ixL (e_var rfl) (e_var rfl) a1) (e_ixT (e_fld (e_var rfl) T.cls T.sizes x.ok.siz) (e_var rfl) a2)).to (congrArg tB (decide_eq_false z1)))) (n_next ?_))
    refine n_seq (n_asg (e_ixT (e_ixT (e_fld (e_var rfl) T.cls T.own_rows x.ok.own) (e_var rfl) (rows_at hr')) (e_ixL (e_var rfl) (e_var rfl) a1) (row_at hp)) ?_)
    by_cases hw : e.tag = "hear"
    · obtain ⟨l, rfl⟩ : ∃ l, e = .hear l := by
        cases e with
        | do_ s => exact absurd hw t_dh
        | say l g t => exact absurd hw t_sh
        | hear l => exact ⟨l, rfl⟩
      obtain ⟨s, p', t, hs, hl'⟩ := say_of x.R he
      have hk := dLook_pl x.R hl'
      obtain ⟨c2, hc2⟩ : ∃ c2, cs[s]? = some c2 := ⟨_, List.getElem?_eq_getElem (by have := (evAt_lt hs).1; omega)⟩
      refine n_seq (n_ifF (et_test (e_neF (e_ixT (e_var rfl) e_c rfl) e_c rfl rfl)) (n_next ?_))
      refine n_seq (n_asgT (e_dget (k := kn l) (e_fld (e_var rfl) T.cls T.sayings x.ok.say) (e_ixT (e_var rfl) e_c rfl) hk) (tg_2 ?_))
      refine n_ret ((e_op0 (e_var rfl) (e_ixL (e_var rfl) (e_var rfl) (t := tn c2) (atI_n (by rw [List.getElem?_map, hc2] <;> rfl)))).to ?_) q
      refine congrArg tB (Bool.eq_iff_iff.mpr ?_)
      rw [rdB_iff, decide_eq_true_iff]
      refine ⟨fun z => ⟨by show cs.getD h 0 < _; rw [gc]; exact lt, fun l2 h2 => ?_⟩, fun z => ?_⟩
      · have h2' : evAt x.rs h (cs.getD h 0) = some (.hear l2) := h2
        rw [gc, he] at h2'
        cases h2'
        refine ⟨s, p', h, t, hs, ?_⟩
        show p' < cs.getD s 0
        rw [List.getD_eq_getElem?_getD, hc2]
        show p' < c2
        omega
      · obtain ⟨s2, p2, g2, t2, q1, q2⟩ := z.2 l (by show evAt x.rs h (cs.getD h 0) = _; rw [gc]; exact he)
        obtain ⟨rfl, rfl⟩ := x.R.good.u1 s2 p2 s p' l (by unfold letAt; rw [q1]; rfl) hl'
        have q2' : p2 < cs.getD s2 0 := q2
        rw [List.getD_eq_getElem?_getD, hc2] at q2'
        have q3 : p2 < c2 := q2'
        omega
    · refine n_seq (n_ifT (et_test (e_neT (e_ixT (e_var rfl) e_c (tag_at e)) e_c rfl (s_ne hw))) (n_ret (e_c' ?_) q))
      have : rdB x.rs cs h = true := by
        refine rdB_iff.mpr ⟨by show cs.getD h 0 < _; rw [gc]; exact lt, fun l2 h2 => ?_⟩
        have h2' : evAt x.rs h (cs.getD h 0) = some (.hear l2) := h2
        rw [gc, he] at h2'
        cases h2'
        exact absurd rfl hw
      exact congrArg tB this
  · have z1 : (c : Int) ≥ (sz x.rs h : Int) := by omega
    refine n_seq (n_ifT (et_test ((e_op0 (e_ixL (e_var rfl) (e_var rfl) a1) (e_ixT (e_fld (e_var rfl) T.cls T.sizes x.ok.siz) (e_var rfl) a2)).to (congrArg tB (decide_eq_true z1)))) (n_ret (e_c' ?_) q))
    have : rdB x.rs cs h = false := by
      refine Bool.eq_false_iff.mpr fun z => ?_
      have z2 : cs.getD h 0 < sz x.rs h := (rdB_iff.mp z).1
      omega
    exact congrArg tB this
theorem enum_map {α : Type} {xs : List α} {f : α → Ty} : enumT (xs.map f) = xs.zipIdx.map fun p => tT [tn p.2, f p.1] := by
  unfold enumT
  rw [List.zipIdx_map, List.map_map]
  rfl
noncomputable def goB (rs : List Row) (cs : List Nat) (p : Nat × Nat) : Bool := decide (p.1 < sz rs p.2) && rdB rs cs p.2
theorem goB_iff {rs : List Row} {line : List Nat} {h c : Nat} (hh : h < rs.length) (hc : (cntL rs.length line)[h]? = some c) : goB rs (cntL rs.length line) (c, h) = true ↔ Ready rs (cnt line) h := by
  have e1 : ∀ k, k < rs.length → (cntL rs.length line).getD k 0 = cnt line k := fun k hk => by rw [List.getD_eq_getElem?_getD, cntL_at hk] <;> rfl
  rw [cntL_at hh] at hc
  cases hc
  unfold goB
  rw [Bool.and_eq_true, decide_eq_true_iff, rdB_iff]
  constructor
  · rintro ⟨h1, h2, h3⟩
    refine ⟨h1, fun l hl => ?_⟩
    obtain ⟨s, p, g, t, q1, q2⟩ := h3 l (by show evAt rs h ((cntL rs.length line).getD h 0) = _; rw [e1 h hh]; exact hl)
    have q2' : p < (cntL rs.length line).getD s 0 := q2
    rw [e1 s (evAt_lt q1).1] at q2'
    exact ⟨s, p, g, t, q1, q2'⟩
  · intro r
    refine ⟨r.1, by show (cntL rs.length line).getD h 0 < _; rw [e1 h hh]; exact r.1, fun l hl => ?_⟩
    have hl' : evAt rs h ((cntL rs.length line).getD h 0) = some (.hear l) := hl
    rw [e1 h hh] at hl'
    obtain ⟨s, p, g, t, q1, q2⟩ := r.2 l hl'
    refine ⟨s, p, g, t, q1, ?_⟩
    show p < (cntL rs.length line).getD s 0
    rw [e1 s (evAt_lt q1).1]
    exact q2
theorem rep_sum {n : Nat} : ((List.replicate n 0 : List Nat)).sum = 0 := by simp
theorem f_least_line_from (T : En K mg) : Cal P w K mg "least_line_from" 2 ["picture", "cut", "goal"] (spT (fun x : Pc => [x.t K, tT ((List.replicate x.rs.length 0).map tn), tT ((sizes x.rs).map tn)]) (fun x => tEx (fun line => Line x.rs line ∧ line.length = (sizes x.rs).sum) fun line => tL (line.map tn))) := by
  have S : FnScope ["picture", "cut", "goal", "counts", "found", "turn", "some", "house", "many"] ["picture", "cut", "goal"] d_least_line_from.scope := ⟨rfl, rfl, rfl, by decide +kernel, rfl, by decide +kernel, by decide +kernel⟩
  refine Cal.mk' (n := 6) T 18 12 rfl rfl rfl rfl rfl S rfl (fun _ => rfl) (fun _ _ _ _ _ _ us hl => match us, hl with | [_, _, _], _ => rfl) fun base cdv A outer s H EX hr => ⟨_, (pss_cons (ps_asg (pe_tup (pa_cons (pe_callTy call_lOf rfl T.list bo_list (pa_cons (pv 1) pa_nil)) (pa_cons (pe_lst pa_nil) pa_nil))) (pg_tup rfl (pgs_cons (pg_name (i := 3) S.nd rfl (Or.inr rfl)) (pgs_cons (pg_name (i := 4) S.nd rfl (Or.inl rfl)) pgs_nil))))
      (pss_cons (ps_for PassesOwn.never rfl (pi_range1 rfl T.range (pa_cons (pe_op op_sub (pe_callB (cr_sumT rfl) rfl T.sum bo_sum (pa_cons (pv 2) pa_nil)) (pe_callB (cr_sumT rfl) rfl T.sum bo_sum (pa_cons (pv 1) pa_nil))) pa_nil)) (pg_name (i := 5) S.nd rfl (Or.inl rfl)) (pss_cons (ps_setLc (i := 6) (own := [("house", 7), ("many", 8)]) rfl S.nd rfl rfl (sw_true rfl rfl rfl (by decide +kernel)) (pi_enum rfl T.enumerate (pa_cons (pv 3) pa_nil)) (blkOk_by (own := [("house", 7), ("many", 8)]) (N := ["picture", "cut", "goal", "counts", "found", "turn", "some", "house", "many"]) (sc := d_least_line_from.scope) (by decide +kernel)) (fun _ _ _ _ _ => (pg_tupK (K := K) (n := 2) rfl rfl (pgs_cons (pg_name (i := 7) S.nd rfl (Or.inl rfl)) (pgs_cons (pg_name (i := 8) S.nd rfl (Or.inl rfl)) pgs_nil)))) (fun _ _ _ _ _ => (pts_one (PW.pt (pw_and (pt_cmpR op_lt (pv 8) (pe_ix (ix_tupK (K := K) rfl) (pv 2) (pv 7) (fun _ _ => rfl)) (nomark _)) (pw_and1 (pt_val (pe_f (f_is_ready T) hr rfl (pa_cons (pv 0) (pa_cons (pv 3) (pa_cons (pv 7) pa_nil)))))))))) (fun _ _ _ _ _ => (pv 7)))
      (pss_one (ps_for PassesOwn.never rfl (pi_list (pe_slice sl_list (pv 6) po_none (po_some pe_int))) (pg_name (i := 7) S.nd rfl (Or.inl rfl)) (pss_cons (ps_augS (pv 3) (pv 7) get_listN pe_int ip_add set_list)
      (pss_one (ps_expr (pe_bm PySem.F.plainAttrs_list PySem.F.slot_list_append PySem.F.type_list_append mt_append (pv 4) (pa_cons (pv 7) pa_nil)))))))))
      (pss_one (ps_ret (pv 4))))), ?_⟩
  intro x F B Q q
  have tot : (sizes x.rs).sum ≤ 13 := by rw [← evs_len_sum (k := 0)]; exact x.R.tot
  have n4 := x.R.n4
  refine n_seq (n_tupNN (en_bi1 (e_var rfl) bin_list) (en_lst ea_nil (by decide)) fun cp fp => ?_)
  refine n_seq (n_for (α := List Nat) (fun i line => Line x.rs line ∧ line.length = i) (fun _ => [some (x.t K), some (tT ((List.replicate x.rs.length 0).map tn)), some (tT ((sizes x.rs).map tn)), some (tR cp), some (tR fp), none, none, none, none])
    (fun line => [(fp, mL (line.map tn)), (cp, mL ((cntL x.rs.length line).map tn))]) (src_range1 (n := (sizes x.rs).sum) (ea_cons ((e_op0 (e_bi1 (e_var rfl) bi_sumT) (e_bi1 (e_var rfl) bi_sumT)).to ?_) ea_nil) (by omega)) [] ⟨⟨fun i h z => by simp at z⟩, rfl⟩ rfl (by rw [cntL_nil]; rfl) (fun B' eB i t line ht hx => ?_) fun line hx => ?_)
  · rw [rep_sum]
    show tI (((sizes x.rs).sum : Int) - ((0 : Nat) : Int)) = _
    congr 1
  · obtain ⟨hL, hi⟩ := hx
    have hlt : line.length < (sizes x.rs).sum := by
      have := (List.getElem?_eq_some_iff.mp ht).1
      simp at this
      omega
    refine tg_name (n_seq (n_asg (EN.l (EN.focusL (i := 3) (j := 1) rfl rfl (en_fil (xs := (cntL x.rs.length line).zipIdx) (c := goB x.rs (cntL x.rs.length line)) (f := fun p => tT [tn p.2, tn p.1]) (u := fun p => tn p.2) ?_ ?_ fun y hy => ⟨_, tc_2 (by decide) (by decide), ?_, fun _ => e_var rfl⟩) (flat_mL fun t ht => ?_))) ?_))
    · rw [← enum_map]
      exact src_enum (ea_cons (e_var rfl) ea_nil)
    · rw [List.length_zipIdx, cntL_len]
      omega
    · obtain ⟨c, h⟩ := y
      obtain ⟨_, h2, h3⟩ := List.mem_zipIdx hy
      rw [cntL_len] at h2
      simp only [Nat.zero_add] at h2
      refine et_and (b := decide (c < sz x.rs h)) (c := rdB x.rs (cntL x.rs.length line) h) (et_test ((e_op0 (e_var rfl) (e_ixT (e_var rfl) (e_var rfl) (t := tn (sz x.rs h)) (atI_n (by rw [List.getElem?_map, sizes_at h2] <;> rfl)))).to ?_)) fun _ => et_B (e_f ⟨x, cntL x.rs.length line, h, cntL_len, h2⟩ (ea_cons (e_var rfl) (ea_cons (e_var rfl) (ea_cons (e_var rfl) ea_nil))))
      exact congrArg tB (decide_eq_decide.mpr (by omega))
    · obtain ⟨y, _, rfl⟩ := List.mem_map.mp ht
      exact flat_V
    · obtain ⟨h0, rd⟩ := hL.go x.R.good.prog hlt
      have mem : ((cntL x.rs.length line).zipIdx.filter (goB x.rs (cntL x.rs.length line))) ≠ [] := by
        intro e
        have hc := cntL_at (n := x.rs.length) (line := line) rd.lt
        have m1 : (cnt line h0, h0) ∈ (cntL x.rs.length line).zipIdx := List.mem_zipIdx_iff_getElem?.mpr hc
        have m2 := List.mem_filter.mpr ⟨m1, (goB_iff rd.lt hc).mpr rd⟩
        rw [e] at m2
        cases m2
      obtain ⟨y, ys, hy⟩ := List.exists_cons_of_ne_nil mem
      obtain ⟨c, h⟩ := y
      have my := List.mem_filter.mp (hy ▸ List.mem_cons_self .. : (c, h) ∈ (cntL x.rs.length line).zipIdx.filter (goB x.rs (cntL x.rs.length line)))
      have hc : (cntL x.rs.length line)[h]? = some c := List.mem_zipIdx_iff_getElem?.mp my.1
      have hh : h < x.rs.length := by have := (List.getElem?_eq_some_iff.mp hc).1; rw [cntL_len] at this; exact this
      have rd' := (goB_iff hh hc).mp my.2
      have hc' := hc
      rw [cntL_at hh] at hc'
      have ec : cnt line h = c := Option.some.inj hc'
      refine (n_for (ts := [tn h]) (α := List Nat) (fun i l => l = if i = 0 then line else line ++ [h]) (fun _ => [some (x.t K), some (tT ((List.replicate x.rs.length 0).map tn)), some (tT ((sizes x.rs).map tn)), some (tR cp), some (tR fp), some t, some (tL ((((cntL x.rs.length line).zipIdx).filter (goB x.rs (cntL x.rs.length line))).map fun p => tn p.2)), none, none])
        (fun l => [(fp, mL (l.map tn)), (cp, mL ((cntL x.rs.length l).map tn))]) (src_list ((EN.l (en_slL (lo := none) (hi := some 1) (e_var rfl) eo_none (eo_some e_c))).to ?_)) line rfl rfl rfl (fun B2 eB2 j u l hu hj => ?_) fun l hj => ?_)
      · rw [hy]
        rfl
      · have hj0 : j = 0 := by
          have := (List.getElem?_eq_some_iff.mp hu).1
          simp at this
          exact this
        subst hj0
        have hj' : l = line := hj
        subst hj'
        have hu' : u = tn h := by simpa using hu.symm
        subst hu'
        refine tg_name (n_seq (n_augL (j := 1) (x := (cnt l h : Int)) (i := h) rfl (e_var rfl) (e_var rfl) (by rw [List.getElem?_map, cntL_at hh] <;> rfl) e_c (n_app (j := 0) rfl (e_var rfl) (e_var rfl) (by rw [List.length_map]; omega) ?_)))
        refine n_fg [7] (li (l ++ [h]) rfl rfl ?_)
        rw [cntL_snoc, List.map_set, List.map_append]
        rfl
      · have hj' : l = line ++ [h] := hj
        subst hj'
        exact n_fg [5, 6] (li (line ++ [h]) ⟨hL.snoc rd', by rw [List.length_append, hi] <;> rfl⟩ rfl rfl)
  · obtain ⟨hL, hl⟩ := hx
    rw [List.length_map, List.length_range] at hl
    refine n_frz (i := 4) (j := 0) rfl rfl (n_ret (e_var rfl) ?_)
    intro v H G z1 z2 z3 z4
    exact q v H G z1 z2 z3 ⟨line, ⟨hL, hl⟩, z4⟩
end
end K89
set_option Elab.async false
set_option linter.all false
set_option maxRecDepth 100000
set_option maxHeartbeats 4000000
/-! K89W5: clocks along a line. -/
namespace K89
open PySem PySem.Spec PyProof.Rows L2
section
variable {P : Program} {w : World} {K : PySem.W.Frag} {mg : Str → Option Value}
def causesL (h p : Nat) (e : Ev) (sp : Nat × Nat) : List (Nat × Nat) := (if 0 < p then [(h, p - 1)] else []) ++ (match e with
  | .hear _ => [sp]
  | _ => [])
structure Cq where
  x : Pc
  h : Nat
  p : Nat
  e : Ev
  sp : Nat × Nat
  he : evAt x.rs h p = some e
  hs : ∀ l, e = .hear l → letAt true x.rs sp.1 sp.2 = some l
theorem f_causes (T : En K mg) : Cal P w K mg "causes" 1 ["picture", "event"] (spT (fun y : Cq => [y.x.t K, tPr (y.h, y.p)]) (fun y => tL ((causesL y.h y.p y.e y.sp).map tPr))) := by
  have S : FnScope ["picture", "event", "house", "place", "step", "found"] ["picture", "event"] d_causes.scope := ⟨rfl, rfl, rfl, by decide +kernel, rfl, by decide +kernel, by decide +kernel⟩
  refine Cal.mk' (n := 4) T 19 13 rfl rfl rfl rfl rfl S rfl (fun _ => rfl) (fun _ _ _ _ _ _ us hl => match us, hl with | [_, _], _ => rfl) fun base cdv A outer s H EX hr => ⟨_, (pss_cons (ps_asg (pv 1) (pg_tup rfl (pgs_cons (pg_name (i := 2) S.nd rfl (Or.inl rfl)) (pgs_cons (pg_name (i := 3) S.nd rfl (Or.inl rfl)) pgs_nil))))
      (pss_cons (ps_set (i := 4) S.nd rfl (Or.inl rfl) (pe_ix ix_tup (pe_ix ix_tup (pe_fld (pv 0) rfl) (pv 2) (fun _ _ => rfl)) (pv 3) (fun _ _ => rfl)))
      (pss_cons (ps_set (i := 5) S.nd rfl (Or.inl rfl) (pe_ifExp (pt_cmpR op_gt (pv 3) pe_int (nomark _)) (pe_lst (pa_cons (pe_tup (pa_cons (pv 2) (pa_cons (pe_op op_sub (pv 3) pe_int) pa_nil))) pa_nil)) (pe_lst pa_nil)))
      (pss_one (ps_ret (pe_ifExp (pt_cmpR op_eq (pe_ix ix_tup (pv 4) pe_int (fun _ _ => rfl)) (pe_gstr T.HEAR rfl) (nomark _)) (pe_op op_cat (pv 5) (pe_lst (pa_cons (pe_dget (hu_of hr) (pe_fld (pv 0) rfl) (pe_ix ix_tup (pv 4) pe_int (fun _ _ => rfl)) (fun _ _ => rfl)) pa_nil))) (pv 5))))))), ?_⟩
  rintro ⟨x, h, p, e, sp, he, hs⟩ F B Q q
  obtain ⟨r, hr', hp⟩ := evAt_split he
  refine n_seq (n_asgT (e_var rfl) (tg_2 ?_))
  refine n_seq (n_asg (e_ixT (e_ixT (e_fld (e_var rfl) T.cls T.own_rows x.ok.own) (e_var rfl) (rows_at hr')) (e_var rfl) (row_at hp)) ?_)
  refine n_seq (n_asg (t := tL ((if 0 < p then [(h, p - 1)] else []).map tPr)) (e_if (et_test (e_op0 (e_var rfl) e_c)) (fun z => ?_) (fun z => ?_)) ?_)
  · have z' : (p : Int) > 0 := of_decide_eq_true z.symm
    rw [if_pos (by omega)]
    refine EN.l (en_lst (ea_cons (e_pr (e_var rfl) ((e_op0 (e_var rfl) e_c).to ?_)) ea_nil) (by show 1 ≤ 100000; decide))
    show tI ((p : Int) - 1) = tI (((p - 1 : Nat)) : Int)
    congr 2
    omega
  · have z' : ¬ (p : Int) > 0 := of_decide_eq_false z.symm
    rw [if_neg (by omega)]
    exact EN.l (en_lst ea_nil (by decide))
  · by_cases hw : e.tag = "hear"
    · obtain ⟨l, rfl⟩ : ∃ l, e = .hear l := by
        cases e with
        | do_ s => exact absurd hw t_dh
        | say l g t => exact absurd hw t_sh
        | hear l => exact ⟨l, rfl⟩
      refine n_ret (e_if (et_test (e_eqT (e_ixT (e_var rfl) e_c rfl) e_c rfl rfl)) (fun _ => ?_) (fun z => nomatch z)) q
      refine (EN.l (en_cat (us := [tPr sp]) (e_var rfl) (EN.l (en_lst (ea_cons (e_dget (k := kn l) (e_fld (e_var rfl) T.cls T.sayings x.ok.say) (e_ixT (e_var rfl) e_c rfl) (dLook_pl x.R (hs l rfl))) ea_nil) (by show 1 ≤ 100000; decide))) ?_)).to ?_
      · rw [List.length_map]
        by_cases z : 0 < p
        · rw [if_pos z]
          show 1 + 1 ≤ 100000
          decide
        · rw [if_neg z]
          show 0 + 1 ≤ 100000
          decide
      · show _ = tL ((causesL h p (.hear l) sp).map tPr)
        unfold causesL
        rw [List.map_append]
        rfl
    · refine n_ret (e_if (et_test (e_eqF (e_ixT (e_var rfl) e_c (tag_at e)) e_c rfl (s_ne hw))) (fun z => nomatch z) (fun _ => (e_var rfl).to ?_)) q
      unfold causesL
      cases e with
      | do_ s => exact congrArg _ (congrArg _ (List.append_nil _).symm)
      | say l g t => exact congrArg _ (congrArg _ (List.append_nil _).symm)
      | hear l => exact absurd rfl hw
theorem Src.to {wi : TI} {Γ : Gam} {M : List Mut1} {ts us : List Ty} (h : Src wi Γ M ts) (e : ts = us) : Src wi Γ M us := e ▸ h
theorem zip_rep {a b : Ty} {f : Ty × Ty → Ty} : ∀ n, ((List.replicate n a).zip (List.replicate n b)).map f = (List.replicate n ()).map fun _ => f (a, b)
  | 0 => rfl
  | n + 1 => by
    rw [List.replicate_succ, List.replicate_succ, List.replicate_succ, List.zip_cons_cons, List.map_cons, List.map_cons, zip_rep n]
def tAI : Ty := tEx (fun _ : Int => True) tI
theorem flat_AI : Flat tAI := flat_Ex fun _ => flat_V
theorem bi_max2A : Bi rMax2 [tAI, tAI] tAI := fun F B M H G vs s a Q q => by
  obtain ⟨v, w, rfl, ⟨i, _, b⟩, ⟨j, _, c⟩⟩ := at2 a
  exact ⟨i, j, by rw [show v = .int i from b, show w = .int j from c], q _ H G s (Er.refl G) ⟨_, trivial, rfl⟩⟩
def tClk (n : Nat) : Ty := tT (List.replicate n tAI)
theorem rep_set {α : Type} {n i : Nat} {a : α} : (List.replicate n a).set i a = List.replicate n a := by
  refine List.ext_getElem? fun k => ?_
  rw [List.getElem?_set, List.getElem?_replicate, List.length_replicate]
  by_cases z : i = k
  · subst z
    rw [if_pos rfl]
  · rw [if_neg z]
theorem dLook_app {κ : Type} [DecidableEq κ] {k k' : κ} {t : Ty} : ∀ {as : List (κ × Ty)}, dLook k' (as ++ [(k, t)]) = match dLook k' as with
    | some u => some u
    | none => if k = k' then some t else none
  | [] => by
    show (if k = k' then some t else none) = _
    rfl
  | b :: as => by
    show (if b.1 = k' then some b.2 else dLook k' (as ++ [(k, t)])) = match (if b.1 = k' then some b.2 else dLook k' as) with
      | some u => some u
      | none => if k = k' then some t else none
    by_cases z : b.1 = k'
    · rw [if_pos z, if_pos z]
    · rw [if_neg z, if_neg z]
      exact dLook_app
theorem key_eq {h p h' p' : Nat} : ([kn h, kn p] : List Key) = [kn h', kn p'] ↔ h = h' ∧ p = p' := by
  constructor
  · intro e
    injection e with e1 e2
    injection e2 with e2 _
    exact ⟨kn_inj e1, kn_inj e2⟩
  · rintro ⟨rfl, rfl⟩
    rfl
theorem f_clocks_along (T : En K mg) : Cal P w K mg "clocks_along" 2 ["picture", "line"] (spT (fun y : {y : Pc × List Nat // Line y.1.rs y.2} => [y.1.1.t K, tL (y.1.2.map tn)]) (fun _ => tAny)) := by
  have S : FnScope ["picture", "line", "counts", "found", "house", "event", "clock", "cause", "near", "far"] ["picture", "line"] d_clocks_along.scope := ⟨rfl, rfl, rfl, by decide +kernel, rfl, by decide +kernel, by decide +kernel⟩
  refine Cal.mk' (n := 8) T 20 14 rfl rfl rfl rfl rfl S rfl (fun _ => rfl) (fun _ _ _ _ _ _ us hl => match us, hl with | [_, _], _ => rfl) fun base cdv A outer s H EX hr => ⟨_, (pss_cons (ps_par (i := 2) (j := 3) rfl S.nd rfl rfl (by decide) rfl rfl (pa_cons (pe_op op_rep (pe_lst (pa_cons pe_int pa_nil)) (pe_callB call_len rfl T.len bo_len (pa_cons (pe_fld (pv 0) rfl) pa_nil))) (pa_cons pe_dnewT pa_nil)) rfl)
      (pss_cons (ps_for PassesOwn.never rfl (pi_list (pv 1)) (pg_name (i := 4) S.nd rfl (Or.inl rfl)) (pss_cons (ps_set (i := 5) S.nd rfl (Or.inl rfl) (pe_tup (pa_cons (pv 4) (pa_cons (pe_ix ix_list (pv 2) (pv 4) (fun _ _ => rfl)) pa_nil))))
      (pss_cons (ps_set (i := 6) S.nd rfl (Or.inl rfl) (pe_op op_rep (pe_lst (pa_cons pe_int pa_nil)) (pe_callB call_len rfl T.len bo_len (pa_cons (pv 2) pa_nil))))
      (pss_cons (ps_for PassesOwn.never rfl (pi_list (pe_f (f_causes T) hr rfl (pa_cons (pv 0) (pa_cons (pv 5) pa_nil)))) (pg_name (i := 7) S.nd rfl (Or.inl rfl)) (pss_one (ps_setLc (i := 6) (own := [("near", 8), ("far", 9)]) rfl S.nd rfl rfl (sw_true rfl rfl rfl (by decide +kernel)) (pi_zipM rfl T.zip (pa_cons (pv 6) (pa_cons (pe_dget (hu_of hr) (pv 3) (pv 7) (fun _ _ => rfl)) pa_nil))) (blkOk_by (own := [("near", 8), ("far", 9)]) (N := ["picture", "line", "counts", "found", "house", "event", "clock", "cause", "near", "far"]) (sc := d_clocks_along.scope) (by decide +kernel)) (fun _ _ _ _ _ => (pg_tupK (K := K) (n := 2) rfl rfl (pgs_cons (pg_name (i := 8) S.nd rfl (Or.inl rfl)) (pgs_cons (pg_name (i := 9) S.nd rfl (Or.inl rfl)) pgs_nil)))) (fun _ _ _ _ _ => pts_nil) (fun _ _ _ _ _ => (pe_callB (call_mx2 rfl) rfl T.max bo_max (pa_cons (pv 8) (pa_cons (pv 9) pa_nil)))))))
      (pss_cons (ps_asg (pe_op op_add (pe_ix ix_list (pv 2) (pv 4) (fun _ _ => rfl)) pe_int) (pg_sub (pv 6) (pv 4) set_list))
      (pss_cons (ps_dput (hu_of hr) (pv 3) (pv 5) (pe_callTy call_tOf rfl T.tuple bo_tuple (pa_cons (pv 6) pa_nil)) rfl)
      (pss_one (ps_augS (pv 2) (pv 4) get_listN pe_int ip_add set_list))))))))
      (pss_one (ps_ret (pv 3))))), ?_⟩
  rintro ⟨⟨x, line⟩, L⟩ F B Q q
  have L' : Line x.rs line := L
  have tot : (sizes x.rs).sum ≤ 13 := by rw [← evs_len_sum (k := 0)]; exact x.R.tot
  have n4 := x.R.n4
  have hlen : line.length ≤ 13 := by
    have h1 := L'.sum.1
    have h2 := sum_le_of (xs := sizes x.rs) (ys := cntL x.rs.length line) (by rw [cntL_len]; unfold sizes; simp) fun i a b ha hb => by
      have hi : i < x.rs.length := by
        have := (List.getElem?_eq_some_iff.mp hb).1
        rw [cntL_len] at this
        exact this
      rw [cntL_at hi] at hb
      rw [sizes_at hi] at ha
      cases ha
      cases hb
      exact L'.sum.2 i
    omega
  have hn : (sizes x.rs).length = x.rs.length := by unfold sizes; simp
  refine n_seq (n_parNN (m1 := mL ((cntL x.rs.length []).map tn)) (m2 := mDT []) ((en_rep (t := tn 0) (n := x.rs.length) (EN.l (en_lst (ea_cons e_c ea_nil) (by show 1 ≤ 100000; decide))) ((e_bi1 (e_fld (e_var rfl) T.cls T.sizes x.ok.siz) bi_len).to ?_) (by omega)).imp fun o G h => ?_) en_dnewT fun cp fp => ?_)
  · rw [List.length_map, hn]
  · rw [cntL_nil, List.map_replicate]
    exact h
  refine n_seq (n_for (α := Nat × List (List Key × Ty)) (fun i y => y.1 = i ∧ y.2.length = i ∧ ∀ h p, dLook [kn h, kn p] y.2 = if p < cnt (line.take i) h then some (tClk x.rs.length) else none) (fun _ => [some (x.t K), some (tL (line.map tn)), some (tR cp), some (tR fp), none, none, none, none, none, none])
    (fun y => [(fp, mDT y.2), (cp, mL ((cntL x.rs.length (line.take y.1)).map tn))]) (src_list (e_var rfl)) (0, []) ⟨rfl, rfl, fun h p => ?_⟩ rfl rfl (fun B' eB i t y ht hy => ?_) fun y hy => ?_)
  · rw [if_neg (by simp [cnt])]
    rfl
  · obtain ⟨i', kvs⟩ := y
    obtain ⟨ei, hk, hd⟩ := hy
    have ei' : i' = i := ei
    subst ei'
    rw [List.getElem?_map] at ht
    cases eh : line[i']? with
    | none => rw [eh] at ht; cases ht
    | some h =>
    rw [eh] at ht
    have ht' := Option.some.inj ht
    subst ht'
    have rd := L'.rd i' h eh
    have hi := (List.getElem?_eq_some_iff.mp eh).1
    obtain ⟨e, he⟩ := evAt_some rd.1
    have c1 := cntL_at (line := line.take i') rd.lt
    obtain ⟨sp, hs⟩ : ∃ sp : Nat × Nat, ∀ l, e = .hear l → letAt true x.rs sp.1 sp.2 = some l ∧ sp.2 < cnt (line.take i') sp.1 := by
      by_cases hw : ∃ l, e = .hear l
      · obtain ⟨l, rfl⟩ := hw
        obtain ⟨s, p, g, t, q1, q2⟩ := rd.2 l he
        refine ⟨(s, p), fun l2 e2 => ?_⟩
        cases e2
        exact ⟨by unfold letAt; rw [q1]; rfl, q2⟩
      · exact ⟨(0, 0), fun l e2 => absurd ⟨l, e2⟩ hw⟩
    refine tg_name (n_seq (n_asg (t := tPr (h, cnt (line.take i') h)) (e_pr (e_var rfl) (E.focusL (i := 2) (j := 1) rfl rfl (e_ixL (e_var rfl) (e_var rfl) (atI_n (by rw [List.getElem?_map, c1] <;> rfl))) flat_V)) ?_))
    refine n_seq (n_asgN (m := mL (List.replicate x.rs.length tAI)) ((en_rep (t := tn 0) (n := x.rs.length) (EN.l (en_lst (ea_cons e_c ea_nil) (by show 1 ≤ 100000; decide))) (E.focusL (i := 2) (j := 1) rfl rfl ((e_bi1 (e_var rfl) bi_len).to ?_) flat_V) (by omega)).imp fun o G hm => ?_) fun q0 => ?_)
    · rw [List.length_map, cntL_len]
    · obtain ⟨vs, h1, h2⟩ := hm
      refine ⟨vs, h1, ?_⟩
      have : ∀ (n : Nat) (vs : List V), At (List.replicate n (tn 0)) vs G → At (List.replicate n tAI) vs G := by
        intro n
        induction n with
        | zero => intro vs h; exact h
        | succ n ih =>
          intro vs h
          cases vs with
          | nil => exact h
          | cons v vs => exact ⟨⟨0, trivial, h.1⟩, ih vs h.2⟩
      exact this _ _ h2
    refine n_seq (n_for (ts := (causesL h (cnt (line.take i') h) e sp).map tPr) (α := Addr) (fun _ _ => True) (fun q1 => [some (x.t K), some (tL (line.map tn)), some (tR cp), some (tR fp), some (tn h), some (tPr (h, cnt (line.take i') h)), some (tR q1), none, none, none])
      (fun q1 => [(q1, mL (List.replicate x.rs.length tAI)), (fp, mDT kvs), (cp, mL ((cntL x.rs.length (line.take i')).map tn))]) (src_list (e_f ⟨x, h, _, e, sp, he, fun l hl => (hs l hl).1⟩ (ea_cons (e_var rfl) (ea_cons (e_var rfl) ea_nil)))) q0 trivial rfl rfl (fun B2 eB2 j u q1 hu _ => ?_) fun q1 _ => ?_)
    · rw [List.getElem?_map] at hu
      cases ez : (causesL h (cnt (line.take i') h) e sp)[j]? with
      | none => rw [ez] at hu; cases hu
      | some z =>
      obtain ⟨s, p⟩ := z
      rw [ez] at hu
      have hu' := Option.some.inj hu
      subst hu'
      have hz : p < cnt (line.take i') s := by
        have m := List.mem_of_getElem? ez
        unfold causesL at m
        rcases List.mem_append.mp m with m | m
        · by_cases z : 0 < cnt (line.take i') h
          · rw [if_pos z] at m
            simp at m
            rw [m.1, m.2]
            omega
          · rw [if_neg z] at m
            cases m
        · cases e with
          | do_ s => cases m
          | say l g t => cases m
          | hear l =>
            simp at m
            have := (hs l rfl).2
            rw [← m] at this
            exact this
      have hk2 := hd s p
      rw [if_pos hz] at hk2
      refine tg_name (n_asgN (m := mL (List.replicate x.rs.length tAI)) (EN.focus2 (i := 6) (i2 := 3) rfl rfl rfl (by decide) ((en_map (xs := List.replicate x.rs.length ()) (f := fun _ => tT [tAI, tAI]) (u := fun _ => tAI) ((src_zipM (ts := List.replicate x.rs.length tAI) (us := List.replicate x.rs.length tAI) (ea_cons (e_var rfl) (ea_cons (e_dgetF (k := [kn s, kn p]) (e_var rfl) (e_var rfl) hk2) ea_nil)) rfl).to (zip_rep _)) ?_ fun y hy => ⟨_, tc_2 (by decide) (by decide), e_bi2 (e_var rfl) (e_var rfl) bi_max2A⟩).imp fun o G hm => ?_) (flat_mL fun t ht => ?_)) fun q2 => ?_)
      · rw [List.length_replicate]
        omega
      · rw [List.map_replicate] at hm
        exact hm
      · rw [List.eq_of_mem_replicate ht]
        exact flat_AI
      · refine n_fg [7] (n_sub [(q2, mL (List.replicate x.rs.length tAI)), (fp, mDT kvs), (cp, mL ((cntL x.rs.length (line.take i')).map tn))] ?_ (li q2 trivial rfl rfl))
        exact List.Sublist.cons_cons _ (List.sublist_cons_self ..)
    · refine n_seq (n_setL (j := 0) (i := h) (t := tAI) rfl ((e_op0 (E.focusL (i := 2) (j := 2) rfl rfl (e_ixL (e_var rfl) (e_var rfl) (atI_n (by rw [List.getElem?_map, c1] <;> rfl))) flat_V) e_c).imp fun v G hv => ⟨_, trivial, hv⟩) (e_var rfl) (e_var rfl) (by rw [List.length_replicate]; exact rd.lt) ?_)
      rw [rep_set]
      refine n_seq (n_dputT (j := 1) (k := [kn h, kn (cnt (line.take i') h)]) rfl (e_tupleM (j := 0) (e_var rfl) (List.mem_cons_self ..)) (e_var rfl) (e_var rfl) (by rw [hk]; omega) (by rw [hd, if_neg (Nat.lt_irrefl _)]) ?_)
      refine n_augL (j := 2) (i := h) (x := (cnt (line.take i') h : Int)) rfl (e_var rfl) (e_var rfl) (by rw [List.getElem?_map, c1] <;> rfl) e_c ?_
      have et : line.take (i' + 1) = line.take i' ++ [h] := by rw [List.take_succ, eh] <;> rfl
      refine n_fg [4, 5, 6] (n_sub _ (List.sublist_cons_self ..) (li (i' + 1, kvs ++ [([kn h, kn (cnt (line.take i') h)], tT (List.replicate x.rs.length tAI))]) ⟨rfl, by rw [List.length_append, hk] <;> rfl, fun h2 p2 => ?_⟩ rfl ?_))
      · show dLook [kn h2, kn p2] (kvs ++ [_]) = _
        rw [dLook_app, hd, et, cnt_snoc]
        by_cases z : p2 < cnt (line.take i') h2
        · rw [if_pos z]
          by_cases y : h2 = h
          · rw [if_pos y, if_pos (show p2 < cnt (line.take i') h2 + 1 by omega)]
          · rw [if_neg y, if_pos z]
        · rw [if_neg z]
          show (if ([kn h, kn (cnt (line.take i') h)] : List Key) = [kn h2, kn p2] then some _ else none) = _
          by_cases y : h2 = h
          · subst y
            rw [if_pos rfl]
            by_cases w : p2 = cnt (line.take i') h2
            · rw [if_pos (key_eq.mpr ⟨rfl, w.symm⟩), if_pos (show p2 < cnt (line.take i') h2 + 1 by omega)]
              rfl
            · rw [if_neg (fun e => w (key_eq.mp e).2.symm), if_neg (show ¬ p2 < cnt (line.take i') h2 + 1 by omega)]
          · rw [if_neg (fun e => y (key_eq.mp e).1.symm), if_neg y, if_neg z]
      · show [(fp, _), (cp, mL (((cntL x.rs.length (line.take i')).map tn).set h _))] = [(fp, _), (cp, mL ((cntL x.rs.length (line.take (i' + 1))).map tn))]
        rw [et, cntL_snoc, List.map_set]
        rfl
  · exact n_ret ((e_var rfl).imp fun v G h => trivial) q
end
end K89
set_option Elab.async false
set_option linter.all false
set_option maxRecDepth 100000
set_option maxHeartbeats 4000000
/-! K89W6: a picture is made. -/
namespace K89
open PySem PySem.Spec PyProof.Rows L2
section
variable {P : Program} {w : World} {K : PySem.W.Frag} {mg : Str → Option Value}
theorem len_dec {n m : Nat} : tB (decide (V.int (n : Int) = V.int (m : Int))) = tB (decide (n = m)) := congrArg tB vnat
theorem step_ok {rs : List Row} (R : Rs rs) {h p : Nat} {r : Row} {e : Ev} (h1 : rs[h]? = some r) (h2 : r[p]? = some e) : StepOk rs.length h e := R.good.ok h p e (by unfold evAt; rw [h1]; exact h2)
theorem f_said_to (T : En K mg) : Cal P w K mg "said_to" 4 ["rows"] (spT (fun x : {rs : List Row // Rs rs} => [tRows false x.1]) (fun x => tEx (fun zs : List (Nat × Nat) => ∀ z, z ∈ zs ↔ z ∈ saidP x.1) fun zs => tL (zs.map tPr))) := by
  have S : FnScope ["rows", "found", "house", "row", "step"] ["rows"] d_said_to.scope := ⟨rfl, rfl, rfl, by decide +kernel, rfl, by decide +kernel, by decide +kernel⟩
  refine Cal.mk' (n := 4) T 6 6 rfl rfl rfl rfl rfl S rfl (fun _ => rfl) (fun _ _ _ _ _ _ us hl => match us, hl with | [_], _ => rfl) fun base cdv A outer s H EX hr => ⟨_, (pss_cons (ps_set (i := 1) S.nd rfl (Or.inl rfl) (pe_lst pa_nil))
      (pss_cons (ps_for PassesOwn.never rfl (pi_enum rfl T.enumerate (pa_cons (pv 0) pa_nil)) (pg_tup rfl (pgs_cons (pg_name (i := 2) S.nd rfl (Or.inl rfl)) (pgs_cons (pg_name (i := 3) S.nd rfl (Or.inl rfl)) pgs_nil))) (pss_one (ps_for PassesOwn.never rfl (pi_list (pe_ifExp (pt_val (pe_f (f_is_list T) (hr.mono (by decide)) rfl (pa_cons (pv 3) pa_nil))) (pv 3) (pe_tup pa_nil))) (pg_name (i := 4) S.nd rfl (Or.inl rfl)) (pss_one (ps_if (PW.pt (pw_and (pt_val (pe_f (f_is_step T) hr rfl (pa_cons (pe_callB call_len rfl T.len bo_len (pa_cons (pv 0) pa_nil)) (pa_cons (pv 2) (pa_cons (pv 4) pa_nil))))) (pw_and1 (pt_cmpR op_eq (pe_ix ix_tup (pv 4) pe_int (fun _ _ => rfl)) (pe_gstr T.SAY rfl) (nomark _))))) (pss_one (ps_expr (pe_bm PySem.F.plainAttrs_list PySem.F.slot_list_append PySem.F.type_list_append mt_append (pv 1) (pa_cons (pe_tup (pa_cons (pe_ix ix_tup (pv 4) pe_int (fun _ _ => rfl)) (pa_cons (pe_ix ix_tup (pv 4) pe_int (fun _ _ => rfl)) pa_nil))) pa_nil)))) pss_nil)))))
      (pss_one (ps_ret (pe_callB (cr_sortedT rfl) rfl T.sorted bo_sorted (pa_cons (pe_callTy (cr_setOfT rfl hr.units) rfl T.set bo_set (pa_cons (pv 1) pa_nil)) pa_nil)))))), ?_⟩
  rintro ⟨rs, R⟩ F B Q q
  have l13 := saidP_len R
  refine n_seq (n_asgN (en_lst ea_nil (by decide)) fun l => ?_)
  refine n_seq (n_for (α := List (Nat × Nat)) (fun i x => x = saidP (rs.take i)) (fun _ => [some (tRows false rs), some (tR l), none, none, none]) (fun x => [(l, mL (x.map tPr))]) (src_enum (ts := rs.map (tRow false)) (ea_cons (e_var rfl) ea_nil)) [] rfl rfl rfl (fun B' eB i t x ht hx => ?_) fun x hx => ?_)
  · obtain ⟨u, hu, rfl⟩ := enum_at ht
    rw [List.getElem?_map] at hu
    cases er : rs[i]? with
    | none => rw [er] at hu; cases hu
    | some r =>
    rw [er] at hu
    have hu' := Option.some.inj hu
    subst hu' hx
    have et : rs.take (i + 1) = rs.take i ++ [r] := by rw [List.take_succ, er] <;> rfl
    refine tg_2 (n_for (ts := r.map tEv) (α := List (Nat × Nat)) (fun j x => x = saidP (rs.take i) ++ (r.take j).filterMap sayPr) (fun _ => [some (tRows false rs), some (tR l), some (tn i), some (tRow false r), none]) (fun x => [(l, mL (x.map tPr))])
      (src_list (e_if (φ := fun c => c = true) (et_B (e_f (false, r.map tEv) (ea_cons (e_var rfl) ea_nil))) (fun _ => e_var rfl) fun z => nomatch z)) (saidP (rs.take i)) (by simp) rfl rfl (fun B2 eB2 j t x ht hx => ?_) fun x hx => ?_)
    · rw [List.getElem?_map] at ht
      cases ee : r[j]? with
      | none => rw [ee] at ht; cases ht
      | some e =>
      rw [ee] at ht
      have ht' := Option.some.inj ht
      subst ht' hx
      have sok := step_ok R er ee
      have ej : r.take (j + 1) = r.take j ++ [e] := by rw [List.take_succ, ee] <;> rfl
      have hs : ∀ {Γ : Gam} {M : List Mut1}, Γ[0]? = some (some (tRows false rs)) → Γ[2]? = some (some (tn i)) → Γ[4]? = some (some (tEv e)) → K89.E (tCall (spT (fun x : {x : Nat × Nat × Ev // StepOk x.1 x.2.1 x.2.2} => [tn x.1.1, tn x.1.2.1, tEv x.1.2.2]) fun _ => tB true) [] E0 (tCons (tCB (rLen K) (tCons (tVar 0) tNil)) (tCons (tVar 2) (tCons (tVar 4) tNil)))) Γ M (tB true) := fun h0 h2 h4 =>
        e_f ⟨(rs.length, i, e), sok⟩ (ea_cons ((e_bi1 (e_var h0) bi_len).to (by rw [List.length_map])) (ea_cons (e_var h2) (ea_cons (e_var h4) ea_nil)))
      refine tg_name ?_
      by_cases hw : e.tag = "say"
      · obtain ⟨l0, g, t, rfl⟩ : ∃ l0 g t, e = .say l0 g t := by
          cases e with
          | do_ s => exact absurd hw t_ds
          | say l0 g t => exact ⟨l0, g, t, rfl⟩
          | hear l0 => exact absurd hw t_hs
        refine n_ifT (et_and (b := true) (c := true) (et_B (hs rfl rfl rfl)) fun _ => et_test (e_eqT (e_ixT (e_var rfl) e_c rfl) e_c rfl rfl)) ?_
        refine n_app (j := 0) (t := tPr (l0, g)) rfl (e_var rfl) (e_pr (e_ixT (e_var rfl) e_c rfl) (e_ixT (e_var rfl) e_c rfl)) ?_ ?_
        · have h1 : (saidP (rs.take i) ++ (r.take j).filterMap sayPr).length ≤ 100 := by
            have h2 : ((r.take j).filterMap sayPr).length ≤ 13 := by
              refine Nat.le_trans (List.length_filterMap_le ..) ?_
              rw [List.length_take]
              have := R.row (List.mem_of_getElem? er)
              omega
            have h3 : (saidP (rs.take i)).length ≤ (rs.flatten).length := by
              refine Nat.le_trans (List.length_filterMap_le ..) ?_
              conv => rhs; rw [← List.take_append_drop i rs, List.flatten_append, List.length_append]
              omega
            rw [flat_len] at h3
            have := R.tot
            rw [List.length_append]
            omega
          rw [List.length_map]
          omega
        · refine n_fg [4] (li _ rfl rfl ?_)
          rw [ej, List.filterMap_append, ← List.append_assoc]
          exact congrArg (fun z => [(l, mL z)]) (List.map_append (f := tPr) (l₁ := saidP (rs.take i) ++ (r.take j).filterMap sayPr) (l₂ := [(l0, g)])).symm
      · refine n_ifF (et_and (b := true) (c := false) (et_B (hs rfl rfl rfl)) fun _ => et_test (e_eqF (e_ixT (e_var rfl) e_c (tag_at e)) e_c rfl (s_ne hw))) (n_next ?_)
        refine n_fg [4] (li _ ?_ rfl rfl)
        rw [ej, List.filterMap_append]
        cases e with
        | do_ s => simp [sayPr]
        | say l0 g t => exact absurd rfl hw
        | hear l0 => simp [sayPr]
    · subst hx
      refine n_fg [2, 3] (li _ ?_ rfl rfl)
      rw [List.length_map, List.take_length, et]
      unfold saidP
      rw [List.flatten_append, List.filterMap_append, List.flatten_cons, List.flatten_nil, List.append_nil]
  · subst hx
    rw [enum_len, List.length_map, List.take_length]
    refine n_frz (i := 1) (j := 0) rfl rfl (n_ret (EN.lx (en_bi1 (e_bi1 (e_var rfl) (bi_setP (by omega))) (bin_sortedP fun x hx => ?_))) q)
    obtain ⟨h, p, t, he⟩ := mem_saidP.mp (show (x.1, x.2) ∈ saidP rs from hx)
    have h1 := R.good.low h p x.1 x.2 t he
    have h2 := (R.good.ok h p _ he).1
    have := R.n4
    omega
theorem e_hd2 {Γ : Gam} {M : List Mut1} {te : TE} {e : Ev} {k : List Key} (h : K89.E te Γ M (tEv e)) (hk : keyOf e = some k) : K89.E (tSl (rSlA K) te tNoPart (tPart (tC (.int 2)))) Γ M (tT (k.map fun z => tV (kV z))) := by
  have h2 := e_slT (K := K) (lo := none) (hi := some 2) h eo_none (eo_some e_c)
  cases e with
  | do_ s => cases hk
  | say l g t =>
    cases hk
    exact h2
  | hear l =>
    cases hk
    exact h2
structure Ir where
  rs : List Row
  R : Rs rs
  h : Nat
  r : Row
  hr : rs[h]? = some r
  ss : List (Nat × Nat)
  hss : ∀ z, z ∈ ss ↔ z ∈ saidP rs
def kT (k : List Key) : List Key × Ty := (k, tB true)
theorem keys_pre {rs : List Row} {h : Nat} {r : Row} (hr : rs[h]? = some r) : keysR rs = keysR (rs.take h) ++ (r.filterMap keyOf ++ keysR (rs.drop (h + 1))) := by
  have hi := (List.getElem?_eq_some_iff.mp hr).1
  have e : rs = rs.take h ++ r :: rs.drop (h + 1) := by
    have e2 := (List.getElem?_eq_some_iff.mp hr).2
    rw [← e2, List.getElem_cons_drop, List.take_append_drop]
  conv => lhs; rw [e]
  unfold keysR
  rw [List.flatten_append, List.filterMap_append, List.flatten_cons, List.filterMap_append]
theorem f_is_row (T : En K mg) : Cal P w K mg "is_row" 4 ["houses", "house", "row", "sayings", "past"] (spM (fun (x : Ir) p => [tn x.rs.length, tn x.h, tRow false x.r, tL (x.ss.map tPr), tR p]) (fun x => mDT ((keysR (x.rs.take x.h)).map kT)) (fun x => mDT ((keysR (x.rs.take (x.h + 1))).map kT)) (fun _ => tB true)) := by
  have S : FnScope ["houses", "house", "row", "sayings", "past", "step"] ["houses", "house", "row", "sayings", "past"] d_is_row.scope := ⟨rfl, rfl, rfl, by decide +kernel, rfl, by decide +kernel, by decide +kernel⟩
  refine Cal.mkM' (n := 1) T 7 7 rfl rfl rfl rfl rfl S rfl (fun _ _ => rfl) (fun _ _ _ _ _ _ us hl => match us, hl with | [_, _, _, _, _], _ => rfl) fun base cdv A outer s H EX hr => ⟨_, (pss_cons (ps_if (pt_not (pt_val (pe_f (f_is_list T) (hr.mono (by decide)) rfl (pa_cons (pv 2) pa_nil)))) (pss_one (ps_ret pe_bl)) pss_nil)
      (pss_cons (ps_for PassesOwn.never rfl (pi_list (pv 2)) (pg_name (i := 5) S.nd rfl (Or.inl rfl)) (pss_cons (ps_if (pt_not (pt_val (pe_f (f_is_step T) hr rfl (pa_cons (pv 0) (pa_cons (pv 1) (pa_cons (pv 5) pa_nil)))))) (pss_one (ps_ret pe_bl)) pss_nil)
      (pss_one (ps_if (pt_cmpR op_ne (pe_ix ix_tup (pv 5) pe_int (fun _ _ => rfl)) (pe_gstr T.DO rfl) (nomark _)) (pss_cons (ps_if (PW.pt (pw_or (pt_cmp (pc_din (hu_of hr) (pe_slice sl_tupA (pv 5) po_none (po_some pe_int)) (pv 4)) rfl) (pw_or1 (PW.pt (pw_and (pt_cmpR op_eq (pe_ix ix_tup (pv 5) pe_int (fun _ _ => rfl)) (pe_gstr T.HEAR rfl) (nomark _)) (pw_and1 (pt_cmpR (op_notInD (room65 hr)) (pe_tup (pa_cons (pe_ix ix_tup (pv 5) pe_int (fun _ _ => rfl)) (pa_cons (pv 1) pa_nil))) (pv 3) rfl))))))) (pss_one (ps_ret pe_bl)) pss_nil)
      (pss_one (ps_dput (hu_of hr) (pv 4) (pe_slice sl_tupA (pv 5) po_none (po_some pe_int)) pe_bl rfl))) pss_nil))))
      (pss_one (ps_ret pe_bl)))), ?_⟩
  rintro ⟨rs, R, h, r, hr', ss, hss⟩ p F B Q q
  have et : rs.take (h + 1) = rs.take h ++ [r] := by rw [List.take_succ, hr'] <;> rfl
  have ek : keysR (rs.take (h + 1)) = keysR (rs.take h) ++ r.filterMap keyOf := by
    rw [et]
    unfold keysR
    rw [List.flatten_append, List.filterMap_append, List.flatten_cons, List.flatten_nil, List.append_nil]
  have kl : (keysR rs).length ≤ 13 := Nat.le_trans (List.length_filterMap_le ..) (by rw [flat_len]; exact R.tot)
  refine n_seq (n_ifF (et_not (b := true) (et_B (e_f (false, r.map tEv) (ea_cons (e_var rfl) ea_nil)))) (n_next ?_))
  refine n_seq (n_for (ts := r.map tEv) (α := List (List Key)) (fun j x => x = keysR (rs.take h) ++ (r.take j).filterMap keyOf) (fun _ => [some (tn rs.length), some (tn h), some (tRow false r), some (tL (ss.map tPr)), some (tR p), none]) (fun x => [(p, mDT (x.map kT))])
    (src_list (e_var rfl)) (keysR (rs.take h)) (by simp) rfl rfl (fun B2 eB2 j t x ht hx => ?_) fun x hx => ?_)
  · rw [List.getElem?_map] at ht
    cases ee : r[j]? with
    | none => rw [ee] at ht; cases ht
    | some e =>
    rw [ee] at ht
    have ht' := Option.some.inj ht
    subst ht' hx
    have sok := step_ok R hr' ee
    have ej : r.take (j + 1) = r.take j ++ [e] := by rw [List.take_succ, ee] <;> rfl
    have nd := keys_nodup R
    rw [keys_pre hr'] at nd
    have er : r = r.take j ++ e :: r.drop (j + 1) := by
      have e2 := (List.getElem?_eq_some_iff.mp ee).2
      rw [← e2, List.getElem_cons_drop, List.take_append_drop]
    have len : (keysR (rs.take h) ++ (r.take j).filterMap keyOf).length ≤ 13 := by
      rw [keys_pre hr'] at kl
      rw [er, List.filterMap_append] at kl
      simp only [List.length_append] at kl ⊢
      omega
    have new : ∀ k, keyOf e = some k → dLook k ((keysR (rs.take h) ++ (r.take j).filterMap keyOf).map kT) = none := by
      intro k hk
      refine dLook_no.mpr fun m => ?_
      rw [List.map_map] at m
      have m' : k ∈ keysR (rs.take h) ++ (r.take j).filterMap keyOf := by
        obtain ⟨k', h1, h2⟩ := List.mem_map.mp m
        have h2' : k' = k := h2
        exact h2' ▸ h1
      rw [er, List.filterMap_append, List.filterMap_cons, hk, ← List.append_assoc, ← List.append_assoc] at nd
      have nd2 := (List.nodup_append.mp nd).1
      exact (List.nodup_append.mp nd2).2.2 k m' k (List.mem_cons_self ..) rfl
    refine tg_name (n_seq (n_ifF (et_not (b := true) (et_B (e_f ⟨(rs.length, h, e), sok⟩ (ea_cons (e_var rfl) (ea_cons (e_var rfl) (ea_cons (e_var rfl) ea_nil)))))) (n_next ?_)))
    cases e with
    | do_ s =>
      refine n_ifF (et_test (e_neF (e_ixT (e_var rfl) e_c rfl) e_c rfl rfl)) (n_next ?_)
      refine n_fg [5] (li _ ?_ rfl rfl)
      rw [ej, List.filterMap_append]
      simp [keyOf]
    | say l g t =>
      refine n_ifT (et_test (e_neT (e_ixT (e_var rfl) e_c rfl) e_c rfl (s_ne (by decide)))) ?_
      refine n_seq (n_ifF (et_or (b := false) (c := false) (et_B ?_) fun _ => et_and (b := false) (c := false) (et_test (e_eqF (e_ixT (e_var rfl) e_c rfl) e_c rfl (s_ne (by decide)))) fun z => nomatch z) (n_next ?_))
      · exact (e_dinT (k := [Sum.inr "say", kn l]) (e_hd2 (e_var rfl) rfl) (e_var rfl) (List.mem_cons_self ..)).to (by rw [new _ rfl] <;> rfl)
      · refine n_dputT (j := 0) (k := [Sum.inr "say", kn l]) rfl e_c (e_var rfl) (e_hd2 (e_var rfl) rfl) (by rw [List.length_map]; omega) (new _ rfl) ?_
        refine n_fg [5] (li _ rfl rfl ?_)
        rw [ej, List.filterMap_append, ← List.append_assoc]
        exact congrArg (fun z => [(p, mDT z)]) (List.map_append (f := kT) (l₁ := keysR (rs.take h) ++ (r.take j).filterMap keyOf) (l₂ := [_])).symm
    | hear l =>
      refine n_ifT (et_test (e_neT (e_ixT (e_var rfl) e_c rfl) e_c rfl (s_ne (by decide)))) ?_
      refine n_seq (n_ifF (et_or (b := false) (c := false) (et_B ?_) fun _ => et_and (b := true) (c := false) (et_test (e_eqT (e_ixT (e_var rfl) e_c rfl) e_c rfl rfl)) fun _ => et_test ?_) (n_next ?_))
      · exact (e_dinT (k := [Sum.inr "hear", kn l]) (e_hd2 (e_var rfl) rfl) (e_var rfl) (List.mem_cons_self ..)).to (by rw [new _ rfl] <;> rfl)
      · refine (e_notInP (x := (l, h)) (ys := ss) (e_pr (e_ixT (e_var rfl) e_c rfl) (e_var rfl)) (e_var rfl)).to ?_
        have he : evAt rs h j = some (.hear l) := by unfold evAt; rw [hr']; exact ee
        obtain ⟨s, p', t, q1⟩ := R.good.heard h j l he
        rw [decide_eq_true ((hss _).mpr (mem_saidP.mpr ⟨s, p', t, q1⟩))]
        rfl
      · refine n_dputT (j := 0) (k := [Sum.inr "hear", kn l]) rfl e_c (e_var rfl) (e_hd2 (e_var rfl) rfl) (by rw [List.length_map]; omega) (new _ rfl) ?_
        refine n_fg [5] (li _ rfl rfl ?_)
        rw [ej, List.filterMap_append, ← List.append_assoc]
        exact congrArg (fun z => [(p, mDT z)]) (List.map_append (f := kT) (l₁ := keysR (rs.take h) ++ (r.take j).filterMap keyOf) (l₂ := [_])).symm
  · subst hx
    rw [List.length_map, List.take_length, ← ek]
    exact n_retP e_c q
theorem f_want_rows (T : En K mg) : Cal P w K mg "want_rows" 5 ["rows"] (spT (fun x : {rs : List Row // Rs rs} => [tRows false x.1]) (fun _ => tN)) := by
  have S : FnScope ["rows", "sayings", "past", "house", "row"] ["rows"] d_want_rows.scope := ⟨rfl, rfl, rfl, by decide +kernel, rfl, by decide +kernel, by decide +kernel⟩
  refine Cal.mk' (n := 4) T 8 8 rfl rfl rfl rfl rfl S rfl (fun _ => rfl) (fun _ _ _ _ _ _ us hl => match us, hl with | [_], _ => rfl) fun base cdv A outer s H EX hr => ⟨_, (pss_cons (ps_if (PW.pt (pw_or (pt_not (pt_val (pe_f (f_is_list T) (hr.mono (by decide)) rfl (pa_cons (pv 0) pa_nil)))) (pw_or1 (pt_cmpR op_eq (pe_callB call_len rfl T.len bo_len (pa_cons (pv 0) pa_nil)) pe_int (nomark _))))) pss_never pss_nil)
      (pss_cons (ps_par (i := 1) (j := 2) rfl S.nd rfl rfl (by decide) rfl rfl (pa_cons (pe_f (f_said_to T) hr rfl (pa_cons (pv 0) pa_nil)) (pa_cons pe_dnewT pa_nil)) rfl)
      (pss_one (ps_for PassesOwn.never rfl (pi_enum rfl T.enumerate (pa_cons (pv 0) pa_nil)) (pg_tup rfl (pgs_cons (pg_name (i := 3) S.nd rfl (Or.inl rfl)) (pgs_cons (pg_name (i := 4) S.nd rfl (Or.inl rfl)) pgs_nil))) (pss_one (ps_if (pt_not (pt_val (pe_f (f_is_row T) hr rfl (pa_cons (pe_callB call_len rfl T.len bo_len (pa_cons (pv 0) pa_nil)) (pa_cons (pv 3) (pa_cons (pv 4) (pa_cons (pv 1) (pa_cons (pv 2) pa_nil)))))))) pss_never pss_nil)))))), ?_⟩
  rintro ⟨rs, R⟩ F B Q q
  refine n_seq (n_ifF (et_or (b := false) (c := false) (et_not (b := true) (et_B (e_f (false, rs.map (tRow false)) (ea_cons (e_var rfl) ea_nil)))) fun _ => et_test (e_eqF (e_bi1 (e_var rfl) bi_len) e_c rfl (i_ne ?_))) (n_next ?_))
  · intro z
    have := R.n1
    rw [List.length_map] at z
    have z' : (rs.length : Int) = 0 := z
    omega
  refine n_seq (n_par2 (e_f ⟨rs, R⟩ (ea_cons (e_var rfl) ea_nil)) en_dnewT fun p => ?_)
  refine n_ex (i := 1) rfl fun ss hss => ?_
  refine n_for (α := Nat) (fun i x => x = i) (fun _ => [some (tRows false rs), some (tL (ss.map tPr)), some (tR p), none, none]) (fun i => [(p, mDT ((keysR (rs.take i)).map kT))]) (src_enum (ts := rs.map (tRow false)) (ea_cons (e_var rfl) ea_nil)) 0 rfl rfl rfl (fun B' eB i t x ht hx => ?_) fun x hx => ?_
  · obtain ⟨u, hu, rfl⟩ := enum_at ht
    rw [List.getElem?_map] at hu
    cases er : rs[i]? with
    | none => rw [er] at hu; cases hu
    | some r =>
    rw [er] at hu
    have hu' := Option.some.inj hu
    subst hu' hx
    refine tg_2 (n_ifNotM (e_fM (j := 0) ⟨rs, R, x, r, er, ss, hss⟩ rfl (ea_cons ((e_bi1 (e_var rfl) bi_len).to ?_) (ea_cons (e_var rfl) (ea_cons (e_var rfl) (ea_cons (e_var rfl) (ea_cons (e_var rfl) ea_nil)))))) (n_next (n_fg [3, 4] (li (x + 1) rfl rfl rfl))))
    rw [List.length_map]
  · exact n_retNx q
def as2 (rs : List Row) : List (Str × Ty) := [("own_rows", tRows true rs), ("sizes", tT ((sizes rs).map tn))]
def as3 (rs : List Row) : List (Str × Ty) := as2 rs ++ [(("sayings" : Str), tD (plK true rs))]
def as4 (rs : List Row) : List (Str × Ty) := as3 rs ++ [(("hearings" : Str), tD (plK false rs))]
def as5 (rs : List Row) : List (Str × Ty) := as4 rs ++ [(("clocks" : Str), tAny)]
theorem ok4 (rs : List Row) : PicOk (as4 rs) rs := ⟨rfl, rfl, rfl, rfl, fun f hf => by
  simp only [List.mem_cons, List.not_mem_nil, or_false] at hf
  rcases hf with rfl | rfl | rfl | rfl | rfl <;> rfl⟩
theorem ok5 (rs : List Row) : PicOk (as5 rs) rs := ⟨rfl, rfl, rfl, rfl, fun f hf => by
  simp only [List.mem_cons, List.not_mem_nil, or_false] at hf
  rcases hf with rfl | rfl | rfl | rfl | rfl <;> rfl⟩
theorem ni_nats {tup : Bool} {ns : List Nat} : NoIns (tSq tup (ns.map tn)) := ni_Sq fun t ht => by
  obtain ⟨n, _, rfl⟩ := List.mem_map.mp ht
  exact ni_V
theorem ni_pl {b : Bool} {rs : List Row} : NoIns (tD (plK b rs)) := ni_D fun t ht => by
  obtain ⟨z, _, rfl⟩ := List.mem_map.mp ht
  exact ni_Sq fun u hu => by
    simp only [List.mem_cons, List.not_mem_nil, or_false] at hu
    rcases hu with rfl | rfl <;> exact ni_V
theorem m___init__ (T : En K mg) : CalM P w K mg (He.ma K (cP K) "__init__") 6 ["self", "rows"] (spM (fun (x : {rs : List Row // Rs rs}) p => [tR p, tRows false x.1]) (fun _ => mO (cP K) []) (fun x => mO (cP K) (as5 x.1)) (fun _ => tN)) := by
  have S : FnScope ["self", "rows", "line", "row"] ["self", "rows"] d_P___init__.scope := ⟨rfl, rfl, rfl, by decide +kernel, rfl, by decide +kernel, by decide +kernel⟩
  refine CalM.mkM' (x := "__init__") (n := 2) T 10 rfl rfl rfl rfl S rfl (fun _ _ => rfl) (fun _ _ _ _ _ _ us hl => match us, hl with | [_, _], _ => rfl) fun base cdv A outer s H EX hr => ⟨_, (pss_cons (ps_expr (pe_f (f_want_rows T) hr rfl (pa_cons (pv 1) pa_nil)))
      (pss_cons (ps_fld (pv 0) (pe_callTy call_tOf rfl T.tuple bo_tuple (pa_cons (pe_lc (own := [("row", 3)]) rfl S.nd (pi_list (pv 1)) (blkOk_by (own := [("row", 3)]) (N := ["self", "rows", "line", "row"]) (sc := d_P___init__.scope) (by decide +kernel)) (fun _ _ _ _ _ => (pg_name (i := 3) S.nd rfl (Or.inl rfl))) (fun _ _ _ _ _ => pts_nil) (fun _ _ _ _ _ => (pe_callTy (call_tOfK (K := K) rfl) rfl T.tuple bo_tuple (pa_cons (pv 3) pa_nil)))) pa_nil)) rfl)
      (pss_cons (ps_fld (pv 0) (pe_callTy call_tOf rfl T.tuple bo_tuple (pa_cons (pe_lc (own := [("row", 3)]) rfl S.nd (pi_tup (pe_fld (pv 0) rfl)) (blkOk_by (own := [("row", 3)]) (N := ["self", "rows", "line", "row"]) (sc := d_P___init__.scope) (by decide +kernel)) (fun _ _ _ _ _ => (pg_name (i := 3) S.nd rfl (Or.inl rfl))) (fun _ _ _ _ _ => pts_nil) (fun _ _ _ _ _ => (pe_callB (call_lenK (K := K) rfl) rfl T.len bo_len (pa_cons (pv 3) pa_nil)))) pa_nil)) rfl)
      (pss_cons (ps_fld (pv 0) (pe_m T.cls (T.meth 83) (m_places_of T) (hr.mono (by decide)) (pv 0) (pa_cons (pe_gstr T.SAY rfl) pa_nil)) rfl)
      (pss_cons (ps_fld (pv 0) (pe_m T.cls (T.meth 83) (m_places_of T) (hr.mono (by decide)) (pv 0) (pa_cons (pe_gstr T.HEAR rfl) pa_nil)) rfl)
      (pss_cons (ps_set (i := 2) S.nd rfl (Or.inl rfl) (pe_f (f_least_line_from T) (hr.mono (by decide)) rfl (pa_cons (pv 0) (pa_cons (pe_op op_repX (pe_tup (pa_cons pe_int pa_nil)) (pe_callB call_len rfl T.len bo_len (pa_cons (pe_fld (pv 0) rfl) pa_nil))) (pa_cons (pe_fld (pv 0) rfl) pa_nil)))))
      (pss_cons (ps_if (pt_cmpR op_lt (pe_callB call_len rfl T.len bo_len (pa_cons (pv 2) pa_nil)) (pe_callB (cr_sumT rfl) rfl T.sum bo_sum (pa_cons (pe_fld (pv 0) rfl) pa_nil)) (nomark _)) pss_never pss_nil)
      (pss_cons (ps_if (pt_cmpR op_gt (pe_callB call_len rfl T.len bo_len (pa_cons (pe_fld (pv 0) rfl) pa_nil)) (pe_gint T.MOST_HOUSES rfl) (nomark _)) pss_never pss_nil)
      (pss_cons (ps_if (pt_cmpR op_gt (pe_callB (cr_sumT rfl) rfl T.sum bo_sum (pa_cons (pe_fld (pv 0) rfl) pa_nil)) (pe_gint T.MOST_EVENTS rfl) (nomark _)) pss_never pss_nil)
      (pss_one (ps_fld (pv 0) (pe_f (f_clocks_along T) (hr.mono (by decide)) rfl (pa_cons (pv 0) (pa_cons (pv 2) pa_nil))) rfl))))))))))), ?_⟩
  rintro ⟨rs, R⟩ p F B Q q
  have tot : (sizes rs).sum ≤ 13 := by rw [← evs_len_sum (k := 0)]; exact R.tot
  have n4 := R.n4
  have hn : (sizes rs).length = rs.length := by unfold sizes; simp
  have nb : ∀ k : Nat, k ≤ 4 → tB (decide ((k : Int) > 6)) = tB false := fun k hk => congrArg tB (decide_eq_false (by omega))
  have nb2 : ∀ k : Nat, k ≤ 13 → tB (decide ((k : Int) > 120)) = tB false := fun k hk => congrArg tB (decide_eq_false (by omega))
  refine n_seq (n_drop (e_f ⟨rs, R⟩ (ea_cons (e_var rfl) ea_nil)) ?_)
  refine n_seq (n_fldO (j := 0) (t := tRows true rs) rfl (e_bi1 (EN.l (en_map (f := tRow false) (u := tRow true) (src_list (e_var rfl)) (Nat.le_trans n4 (by decide)) fun r hr => ⟨_, tc_name (by decide), e_bi1 (e_var rfl) bi_tuple⟩)) bi_tuple) (e_var rfl) T.cls T.own_rows rfl (by decide) ?_)
  refine n_seq (n_fldO (j := 0) (t := tT ((sizes rs).map tn)) rfl (E.focusO (i := 0) (j := 0) rfl rfl ((e_bi1 (EN.l (en_map (f := tRow true) (u := fun r => tn r.length) (src_tup (e_fld (e_var rfl) T.cls T.own_rows rfl)) (Nat.le_trans n4 (by decide)) fun r hr => ⟨_, tc_name (by decide), (e_bi1 (e_var rfl) bi_len).to (by rw [List.length_map])⟩)) bi_tuple).to ?_) ni_nats) (e_var rfl) T.cls T.sizes rfl (by show 1 < 100; decide) ?_)
  · unfold sizes
    rw [List.map_map]
    rfl
  refine n_seq (n_fldO (j := 0) (t := tD (plK true rs)) rfl (E.focusO (i := 0) (j := 0) rfl rfl (e_m ⟨as2 rs, rs, true, rfl, R⟩ (e_var rfl) (ea_cons e_c ea_nil) rfl) ni_pl) (e_var rfl) T.cls T.sayings rfl (by show 2 < 100; decide) ?_)
  refine n_seq (n_fldO (j := 0) (t := tD (plK false rs)) rfl (E.focusO (i := 0) (j := 0) rfl rfl (e_m ⟨as3 rs, rs, false, rfl, R⟩ (e_var rfl) (ea_cons e_c ea_nil) rfl) ni_pl) (e_var rfl) T.cls T.hearings rfl (by show 3 < 100; decide) ?_)
  refine n_seq (n_asg (t := tEx (fun line => Line rs line ∧ line.length = (sizes rs).sum) fun line => tL (line.map tn)) (E.focusO (i := 0) (j := 0) rfl rfl (e_f ⟨as4 rs, rs, ok4 rs, R⟩ (ea_cons (e_var rfl) (ea_cons ((e_repX (n := rs.length) (x := tn 0) (e_tup (ea_cons e_c ea_nil) (by show 1 ≤ 100000; decide)) ((e_bi1 (e_fld (e_var rfl) T.cls T.sizes rfl) bi_len).to ?_) R.n1 (by omega)).to ?_) (ea_cons (e_fld (e_var rfl) T.cls T.sizes rfl) ea_nil)))) (ni_Ex fun line => ni_nats)) ?_)
  · rw [List.length_map, hn]
  · rw [List.map_replicate]
  refine n_ex (i := 2) rfl fun line hl => ?_
  refine n_seq (n_ifF (et_test (E.focusO (i := 0) (j := 0) rfl rfl ((e_op0 (e_bi1 (e_var rfl) bi_len) (e_bi1 (e_fld (e_var rfl) T.cls T.sizes rfl) bi_sumT)).to (congrArg tB (decide_eq_false ?_))) ni_V)) (n_next ?_))
  · rw [List.length_map]
    have := hl.2
    omega
  refine n_seq (n_ifF (et_test (E.focusO (i := 0) (j := 0) rfl rfl ((e_op0 (e_bi1 (e_fld (e_var rfl) T.cls T.sizes rfl) bi_len) e_c).to (nb _ (by rw [List.length_map]; omega))) ni_V)) (n_next ?_))
  refine n_seq (n_ifF (et_test (E.focusO (i := 0) (j := 0) rfl rfl ((e_op0 (e_bi1 (e_fld (e_var rfl) T.cls T.sizes rfl) bi_sumT) e_c).to (nb2 _ tot)) ni_V)) (n_next ?_))
  refine n_fldO (j := 0) (t := tAny) rfl (E.focusO (i := 0) (j := 0) rfl rfl (e_f ⟨(⟨as4 rs, rs, ok4 rs, R⟩, line), hl.1⟩ (ea_cons (e_var rfl) (ea_cons (e_var rfl) ea_nil))) ni_Any) (e_var rfl) T.cls T.clocks rfl (by show 4 < 100; decide) ?_
  exact n_endP q
end
end K89
set_option Elab.async false
set_option linter.all false
set_option maxRecDepth 100000
set_option maxHeartbeats 4000000
/-! K89W7: kept states; what is carried; what is asked of the arguments. -/
namespace K89
open PySem PySem.Spec PyProof.Rows L2
theorem sub_len {α : Type} [DecidableEq α] : ∀ {as bs : List α}, as.Nodup → (∀ a ∈ as, a ∈ bs) → as.length ≤ bs.length
  | [], _, _, _ => Nat.zero_le _
  | a :: as, bs, nd, hs => by
    have m := hs a (List.mem_cons_self ..)
    have h := sub_len (as := as) (bs := bs.erase a) (List.nodup_cons.mp nd).2 fun x hx => (List.mem_erase_of_ne (fun e => (List.nodup_cons.mp nd).1 (by rw [← e]; exact hx))).mpr (hs x (List.mem_cons_of_mem _ hx))
    rw [List.length_erase_of_mem m] at h
    have := List.length_pos_of_mem m
    rw [List.length_cons]
    omega
structure KeOk (size : Nat) (k : List Nat) : Prop where
  inc : k.Pairwise (· < ·)
  hd : k[0]? = some 0
  lst : k.getLast? = some size
theorem KeOk.ne {size : Nat} {k : List Nat} (o : KeOk size k) : k ≠ [] := fun e => by
  have := o.hd
  rw [e] at this
  cases this
theorem KeOk.le {size : Nat} {k : List Nat} (o : KeOk size k) {x : Nat} (h : x ∈ k) : x ≤ size := by
  obtain ⟨i, hi⟩ := List.getElem?_of_mem h
  have hl := o.lst
  rw [List.getLast?_eq_getElem?] at hl
  obtain ⟨h1, h2⟩ := List.getElem?_eq_some_iff.mp hi
  obtain ⟨h3, h4⟩ := List.getElem?_eq_some_iff.mp hl
  by_cases z : i = k.length - 1
  · subst z
    omega
  · have := List.pairwise_iff_getElem.mp o.inc i (k.length - 1) h1 h3 (by omega)
    omega
theorem KeOk.len {size : Nat} {k : List Nat} (o : KeOk size k) : k.length ≤ size + 1 := nodup_len (size + 1) (o.inc.imp fun h => Nat.ne_of_lt h) fun x hx => Nat.lt_succ_of_le (o.le hx)
structure Ka (rs : List Row) where
  kv : List (Key × Ty)
  ke : List (List Nat)
  tup : Bool
  hs : List Nat
  len : kv.length = rs.length
  keys : kv.map (·.1) = hs.map kn
  hlt : ∀ h ∈ hs, h < rs.length
  look : ∀ h, h < rs.length → dLook (kn h) kv = some (tSq tup ((ke.getD h []).map tn))
  ok : ∀ h, h < rs.length → KeOk (sz rs h) (ke.getD h [])
def Ka.t {rs : List Row} (k : Ka rs) : Ty := tD k.kv
theorem atI_neg1 {α : Type} {xs : List α} {x : α} (h : xs.getLast? = some x) : atI xs (-1) = some x := by
  rw [List.getLast?_eq_getElem?] at h
  have hl := (List.getElem?_eq_some_iff.mp h).1
  unfold atI ixN
  rw [if_neg (by omega), if_pos (by omega)]
  have e : ((xs.length : Int) + -1).toNat = xs.length - 1 := by omega
  rw [show ((-1 : Int) + (xs.length : Int)).toNat = xs.length - 1 by omega]
  exact h
theorem map_at {k : List Nat} {i x : Nat} (h : k[i]? = some x) : atI (k.map tn) (i : Int) = some (tn x) := atI_n (by rw [List.getElem?_map, h] <;> rfl)
section
variable {P : Program} {w : World} {K : PySem.W.Frag} {mg : Str → Option Value}
theorem f_is_rising_to (T : En K mg) : Cal P w K mg "is_rising_to" 2 ["value", "last"] (spT (fun x : {x : Bool × List Nat × Nat // KeOk x.2.2 x.2.1 ∧ x.2.2 ≤ 13} => [tSq x.1.1 (x.1.2.1.map tn), tn x.1.2.2]) (fun _ => tB true)) := by
  have S : FnScope ["value", "last", "state", "place"] ["value", "last"] d_is_rising_to.scope := ⟨rfl, rfl, rfl, by decide +kernel, rfl, by decide +kernel, by decide +kernel⟩
  refine Cal.mk' (n := 2) T 21 15 rfl rfl rfl rfl rfl S rfl (fun _ => rfl) (fun _ _ _ _ _ _ us hl => match us, hl with | [_, _], _ => rfl) fun base cdv A outer s H EX hr => ⟨_, (pss_cons (ps_if (PW.pt (pw_or (pt_not (pt_val (pe_f (f_is_list T) hr rfl (pa_cons (pv 0) pa_nil)))) (pw_or (pt_cmpR op_eq (pe_callB call_len rfl T.len bo_len (pa_cons (pv 0) pa_nil)) pe_int (nomark _)) (pw_or1 (pt_not (pt_val (pe_callB (cr_all rfl) rfl T.all bo_all (pa_cons (pe_lc (own := [("state", 2)]) rfl S.nd (pi_sq (pv 0)) (blkOk_by (own := [("state", 2)]) (N := ["value", "last", "state", "place"]) (sc := d_is_rising_to.scope) (by decide +kernel)) (fun _ _ _ _ _ => (pg_name (i := 2) S.nd rfl (Or.inl rfl))) (fun _ _ _ _ _ => pts_nil) (fun _ _ _ _ _ => (pe_f (f_is_integer T) hr rfl (pa_cons (pv 2) pa_nil)))) pa_nil)))))))) (pss_one (ps_ret pe_bl)) pss_nil)
      (pss_cons (ps_if (PW.pt (pw_or (pt_cmpR op_ne (pe_ix ix_seq (pv 0) pe_int (fun _ _ => rfl)) pe_int (nomark _)) (pw_or1 (pt_cmpR op_ne (pe_ix ix_seq (pv 0) (pe_un un_neg pe_int) (fun _ _ => rfl)) (pv 1) (nomark _))))) (pss_one (ps_ret pe_bl)) pss_nil)
      (pss_one (ps_ret (pe_callB (cr_all rfl) rfl T.all bo_all (pa_cons (pe_lc (own := [("place", 3)]) rfl S.nd (pi_range1 rfl T.range (pa_cons (pe_op op_sub (pe_callB call_len rfl T.len bo_len (pa_cons (pv 0) pa_nil)) pe_int) pa_nil)) (blkOk_by (own := [("place", 3)]) (N := ["value", "last", "state", "place"]) (sc := d_is_rising_to.scope) (by decide +kernel)) (fun _ _ _ _ _ => (pg_name (i := 3) S.nd rfl (Or.inl rfl))) (fun _ _ _ _ _ => pts_nil) (fun _ _ _ _ _ => (pe_cmpR op_lt (pe_ix (ix_seqK (K := K) rfl) (pv 0) (pv 3) (fun _ _ => rfl)) (pe_ix (ix_seqK (K := K) rfl) (pv 0) (pe_op op_add (pv 3) pe_int) (fun _ _ => rfl)) (nomark _)))) pa_nil)))))), ?_⟩
  rintro ⟨⟨tup, k, size⟩, o, h13⟩ F B Q q
  have o' : KeOk size k := o
  have hl : k.length ≤ 14 := by have := o'.len; have h13' : size ≤ 13 := h13; omega
  have h0 : 0 < k.length := List.length_pos_iff.mpr o'.ne
  refine n_seq (n_ifF (et_or (b := false) (c := false) (et_not (b := true) (et_B (e_f (tup, k.map tn) (ea_cons (e_var rfl) ea_nil)))) fun _ => et_or (b := false) (c := false) (et_test (e_eqF (e_bi1 (e_var rfl) bi_len) e_c rfl (i_ne ?_))) fun _ => et_not (b := true) (et_B ((e_allC (xs := k) (f := fun _ => true) (en_map (f := tn) (src_sq (e_var rfl)) ?_ fun x hx => ⟨_, tc_name (by decide), e_f (x : Int) (ea_cons (e_var rfl) ea_nil)⟩)).to ?_))) (n_next ?_))
  · intro z
    rw [List.length_map] at z
    have z' : (k.length : Int) = 0 := z
    omega
  · exact Nat.le_trans hl (by decide)
  · exact congrArg tB (List.all_eq_true.mpr fun _ _ => rfl)
  refine n_seq (n_ifF (et_or (b := false) (c := false) (et_test (e_neF (e_ix (e_var rfl) e_c (map_at (i := 0) o'.hd)) e_c rfl rfl)) fun _ => et_test (e_neF (e_ix (t := tn size) (e_var rfl) (e_neg e_c) (atI_neg1 (by rw [List.getLast?_map, o'.lst] <;> rfl))) (e_var rfl) rfl rfl)) (n_next ?_))
  refine n_ret ((e_allC (xs := List.range (k.length - 1)) (f := fun p => decide ((k.getD p 0 : Int) < (k.getD (p + 1) 0 : Int))) (en_map (f := tn) (src_range1 (n := k.length - 1) (ea_cons ((e_op0 (e_bi1 (e_var rfl) bi_len) e_c).to ?_) ea_nil) (by omega)) (by rw [List.length_range]; omega) fun p hp => ⟨_, tc_name (by decide), ?_⟩)).to ?_) q
  · rw [List.length_map]
    show tI ((k.length : Int) - 1) = tI ((k.length - 1 : Nat) : Int)
    congr 2
    omega
  · have hp' := List.mem_range.mp hp
    have g : ∀ i, i < k.length → k[i]? = some (k.getD i 0) := fun i hi => by rw [List.getD_eq_getElem?_getD, List.getElem?_eq_getElem hi] <;> rfl
    exact e_op0 (e_ix (e_var rfl) (e_var rfl) (map_at (g p (by omega)))) (e_ix (e_var rfl) (e_op0 (e_var rfl) e_c) (map_at (i := p + 1) (g (p + 1) (by omega))))
  · refine congrArg tB (List.all_eq_true.mpr fun p hp => decide_eq_true ?_)
    have hp' := List.mem_range.mp hp
    have h1 : p < k.length := by omega
    have h2 : p + 1 < k.length := by omega
    rw [List.getD_eq_getElem?_getD, List.getD_eq_getElem?_getD, List.getElem?_eq_getElem h1, List.getElem?_eq_getElem h2]
    have := List.pairwise_iff_getElem.mp o'.inc p (p + 1) h1 h2 (by omega)
    show ((k[p] : Nat) : Int) < ((k[p + 1] : Nat) : Int)
    omega
structure Kq where
  x : Pc
  k : Ka x.rs
theorem Ka.key {rs : List Row} (k : Ka rs) {e : Key × Ty} (h : e ∈ k.kv) : ∃ h, h < rs.length ∧ e.1 = kn h := by
  have m : e.1 ∈ k.kv.map (·.1) := List.mem_map.mpr ⟨e, h, rfl⟩
  rw [k.keys] at m
  obtain ⟨x, h1, h2⟩ := List.mem_map.mp m
  exact ⟨x, k.hlt x h1, h2.symm⟩
theorem sz13 (x : Pc) (h : Nat) : sz x.rs h ≤ 13 := x.R.sz h
theorem f_is_kept (T : En K mg) : Cal P w K mg "is_kept" 4 ["picture", "value"] (spT (fun y : Kq => [y.x.t K, y.k.t]) (fun _ => tB true)) := by
  have S : FnScope ["picture", "value", "house"] ["picture", "value"] d_is_kept.scope := ⟨rfl, rfl, rfl, by decide +kernel, rfl, by decide +kernel, by decide +kernel⟩
  refine Cal.mk' (n := 1) T 22 16 rfl rfl rfl rfl rfl S rfl (fun _ => rfl) (fun _ _ _ _ _ _ us hl => match us, hl with | [_, _], _ => rfl) fun base cdv A outer s H EX hr => ⟨_, (pss_cons (ps_if (PW.pt (pw_or (pt_not (pt_val (pe_callB call_isi rfl T.isinstance bo_isinstance (pa_cons (pv 1) (pa_cons (pe_ty T.dict rfl bo_dict) pa_nil))))) (pw_or1 (pt_cmpR op_ne (pe_callB call_lenF rfl T.len bo_len (pa_cons (pv 1) pa_nil)) (pe_g T.cls (g_houses T) (hr.mono (by decide)) (pv 0) rfl) (nomark _))))) (pss_one (ps_ret pe_bl)) pss_nil)
      (pss_cons (ps_if (pt_not (pt_val (pe_callB (cr_all rfl) rfl T.all bo_all (pa_cons (pe_lc (own := [("house", 2)]) rfl S.nd (pi_keys (pv 1)) (blkOk_by (own := [("house", 2)]) (N := ["picture", "value", "house"]) (sc := d_is_kept.scope) (by decide +kernel)) (fun _ _ _ _ _ => (pg_name (i := 2) S.nd rfl (Or.inl rfl))) (fun _ _ _ _ _ => pts_nil) (fun _ _ _ _ _ => (pe_f (f_is_house T) hr rfl (pa_cons (pv 0) (pa_cons (pv 2) pa_nil))))) pa_nil)))) (pss_one (ps_ret pe_bl)) pss_nil)
      (pss_one (ps_ret (pe_callB (cr_all rfl) rfl T.all bo_all (pa_cons (pe_lc (own := [("house", 2)]) rfl S.nd (pi_keys (pv 1)) (blkOk_by (own := [("house", 2)]) (N := ["picture", "value", "house"]) (sc := d_is_kept.scope) (by decide +kernel)) (fun _ _ _ _ _ => (pg_name (i := 2) S.nd rfl (Or.inl rfl))) (fun _ _ _ _ _ => pts_nil) (fun _ _ _ _ _ => (pe_f (f_is_rising_to T) (hr.mono (by decide)) rfl (pa_cons (pe_dget (hu_of hr) (pv 1) (pv 2) (fun _ _ => rfl)) (pa_cons (pe_ix (ix_tupK (K := K) rfl) (pe_fldK (K := K) rfl (pv 0) rfl) (pv 2) (fun _ _ => rfl)) pa_nil))))) pa_nil)))))), ?_⟩
  rintro ⟨x, k⟩ F B Q q
  have n4 := x.R.n4
  refine n_seq (n_ifF (et_or (b := false) (c := false) (et_not (b := true) (et_B (e_bi2 (e_var rfl) e_c (bi_isi ty_dict (kit_ty (by decide +kernel)))))) fun _ => et_test (e_neF (e_bi1 (e_var rfl) bi_lenF) (e_p x (e_var rfl)) rfl (by rw [k.len]))) (n_next ?_))
  refine n_seq (n_ifF (et_not (b := true) (et_B ((e_allC (xs := k.kv) (f := fun _ => true) (en_map (f := fun e => tV (kV e.1)) (src_keys (e_var rfl)) (by rw [k.len]; omega) fun e he => ⟨_, tc_name (by decide), ?_⟩)).to ?_))) (n_next ?_))
  · obtain ⟨h, h1, h2⟩ := k.key he
    refine (e_f (x, (h : Int)) (ea_cons (e_var rfl) (ea_cons (e_var (t := tn h) (by rw [h2] <;> rfl)) ea_nil))).to ?_
    show tB (decide ((h : Int) ≥ 0) && decide ((h : Int) < (x.rs.length : Int))) = tB true
    rw [decide_eq_true (by omega), decide_eq_true (by omega)] <;> rfl
  · exact congrArg tB (List.all_eq_true.mpr fun _ _ => rfl)
  refine n_ret ((e_allC (xs := k.kv) (f := fun _ => true) (en_map (f := fun e => tV (kV e.1)) (src_keys (e_var rfl)) (by rw [k.len]; omega) fun e he => ⟨_, tc_name (by decide), ?_⟩)).to ?_) q
  · obtain ⟨h, h1, h2⟩ := k.key he
    exact e_f ⟨(k.tup, k.ke.getD h [], sz x.rs h), k.ok h h1, sz13 x h⟩ (ea_cons (e_dget (k := kn h) (e_var rfl) (e_var (by rw [h2] <;> rfl)) (k.look h h1)) (ea_cons (e_ixT (i := (h : Int)) (e_fld (e_var rfl) T.cls T.sizes x.ok.siz) (e_var (by rw [h2] <;> rfl)) (map_at (sizes_at h1))) ea_nil))
  · exact congrArg tB (List.all_eq_true.mpr fun _ _ => rfl)
theorem f_want_kept (T : En K mg) : Cal P w K mg "want_kept" 5 ["picture", "kept"] (spT (fun y : Kq => [y.x.t K, y.k.t]) (fun _ => tN)) := by
  have S : FnScope ["picture", "kept"] ["picture", "kept"] d_want_kept.scope := ⟨rfl, rfl, rfl, by decide +kernel, rfl, by decide +kernel, by decide +kernel⟩
  refine Cal.mk' (n := 0) T 23 17 rfl rfl rfl rfl rfl S rfl (fun _ => rfl) (fun _ _ _ _ _ _ us hl => match us, hl with | [_, _], _ => rfl) fun base cdv A outer s H EX hr => ⟨_, (pss_one (ps_if (pt_not (pt_val (pe_f (f_is_kept T) hr rfl (pa_cons (pv 0) (pa_cons (pv 1) pa_nil))))) pss_never pss_nil)), ?_⟩
  rintro y F B Q q
  exact n_ifF (et_not (b := true) (et_B (e_f y (ea_cons (e_var rfl) (ea_cons (e_var rfl) ea_nil))))) (n_next (n_retNx q))
/-- letter, where said, where heard -/
abbrev Cr := Nat × (Nat × Nat) × (Nat × Nat)
def Car (rs : List Row) (c : Cr) : Prop := letAt true rs c.2.1.1 c.2.1.2 = some c.1 ∧ letAt false rs c.2.2.1 c.2.2.2 = some c.1
def crK (c : Cr) : Key × Ty := (kn c.1, tT [tPr c.2.1, tPr c.2.2])
structure Crs (rs : List Row) (cs : List Cr) : Prop where
  mem : ∀ c, c ∈ cs ↔ Car rs c
  nd : (cs.map (·.1)).Nodup
theorem Car.uniq {rs : List Row} (R : Rs rs) {c d : Cr} (h : Car rs c) (k : Car rs d) (e : c.1 = d.1) : c = d := by
  obtain ⟨l, ⟨a, b⟩, ⟨x, y⟩⟩ := c
  obtain ⟨l', ⟨a', b'⟩, ⟨x', y'⟩⟩ := d
  have e' : l = l' := e
  subst e'
  obtain ⟨rfl, rfl⟩ := R.good.u1 _ _ _ _ _ h.1 k.1
  obtain ⟨rfl, rfl⟩ := R.good.u2 _ _ _ _ _ h.2 k.2
  rfl
theorem Crs.len {rs : List Row} (R : Rs rs) {cs : List Cr} (h : Crs rs cs) : cs.length ≤ 13 := by
  have h2 := sub_len (as := cs.map (·.1)) (bs := (pls true rs).map (·.1)) h.nd fun l hl => by
    obtain ⟨c, hc, rfl⟩ := List.mem_map.mp hl
    exact List.mem_map.mpr ⟨(c.1, c.2.1), mem_pls.mpr ((h.mem c).mp hc).1, rfl⟩
  rw [List.length_map, List.length_map] at h2
  have := R.pls true
  omega
theorem dLook_cr {rs : List Row} (R : Rs rs) {cs : List Cr} (h : Crs rs cs) {c : Cr} (hc : Car rs c) : dLook (kn c.1) (cs.map crK) = some (tT [tPr c.2.1, tPr c.2.2]) := by
  have m := (h.mem c).mpr hc
  have key : ∀ ds : List Cr, (∀ d ∈ ds, d ∈ cs) → c ∈ ds → dLook (kn c.1) (ds.map crK) = some (tT [tPr c.2.1, tPr c.2.2]) := by
    intro ds
    induction ds with
    | nil => intro _ m; cases m
    | cons d ds ih =>
      intro hs m
      show (if kn d.1 = kn c.1 then some (crK d).2 else dLook (kn c.1) (ds.map crK)) = _
      by_cases z : d.1 = c.1
      · rw [if_pos (by rw [z]), Car.uniq R ((h.mem d).mp (hs d (List.mem_cons_self ..))) hc z]
        rfl
      · rw [if_neg fun q => z (kn_inj q)]
        rcases List.mem_cons.mp m with e | e
        · exact absurd (by rw [e]) z
        · exact ih (fun x hx => hs x (List.mem_cons_of_mem _ hx)) e
  exact key cs (fun _ h => h) m
theorem let_says {rs : List Row} (R : Rs rs) {h p l : Nat} (q : letAt false rs h p = some l) : ∃ s p', letAt true rs s p' = some l := by
  unfold letAt at q
  cases z : evAt rs h p with
  | none => rw [z] at q; cases q
  | some e =>
    rw [z] at q
    cases e with
    | do_ s => cases q
    | say l' g t => cases q
    | hear l' =>
      have e' : l' = l := by simpa [Ev.let_] using q
      subst e'
      obtain ⟨s, p', t, h1, h2⟩ := say_of R z
      exact ⟨s, p', h2⟩
theorem f_carried (T : En K mg) : Cal P w K mg "carried" 5 ["picture"] (spT (fun x : Pc => [x.t K]) (fun x => tEx (Crs x.rs) fun cs => tD (cs.map crK))) := by
  have S : FnScope ["picture", "found", "letter"] ["picture"] d_carried.scope := ⟨rfl, rfl, rfl, by decide +kernel, rfl, by decide +kernel, by decide +kernel⟩
  refine Cal.mk' (n := 2) T 24 18 rfl rfl rfl rfl rfl S rfl (fun _ => rfl) (fun _ _ _ _ _ _ us hl => match us, hl with | [_], _ => rfl) fun base cdv A outer s H EX hr => ⟨_, (pss_cons (ps_set (i := 1) S.nd rfl (Or.inl rfl) pe_dnewK)
      (pss_cons (ps_for PassesOwn.never rfl (pi_list (pe_m0 T.cls (T.meth 85) (m_letters T) (hr.mono (by decide)) (pv 0))) (pg_name (i := 2) S.nd rfl (Or.inl rfl)) (pss_one (ps_if (pt_cmpR op_notNone (pe_m T.cls (T.meth 87) (m_heard T) hr (pv 0) (pa_cons (pv 2) pa_nil)) pe_non (nomark _)) (pss_one (ps_dput (hu_of hr) (pv 1) (pv 2) (pe_tup (pa_cons (pe_m T.cls (T.meth 86) (m_said T) (hr.mono (by decide)) (pv 0) (pa_cons (pv 2) pa_nil)) (pa_cons (pe_m T.cls (T.meth 87) (m_heard T) hr (pv 0) (pa_cons (pv 2) pa_nil)) pa_nil))) rfl)) pss_nil)))
      (pss_one (ps_fz (ps_ret (pv 1)))))), ?_⟩
  intro x F B Q q
  refine n_seq (n_asgN en_dnew fun l => ?_)
  refine n_seq (n_forX (α := List Cr) (srcx_list (e_m x (e_var rfl) ea_nil (x.ok.no _ (by decide)))) (fun (ms : List Nat) i cs => (∀ c, c ∈ cs ↔ Car x.rs c ∧ c.1 ∈ ms.take i) ∧ (cs.map (·.1)).Nodup) (fun _ _ => [some (x.t K), some (tR l), none]) (fun _ cs => [(l, mD (cs.map crK))]) (fun _ => []) (fun ms hm => ⟨fun c => by simp, List.nodup_nil⟩) (fun _ => rfl) (fun _ => rfl) (fun ms hm B' eB i t cs ht hcs => ?_) fun ms hm cs hcs => ?_)
  · have hm' : ms.Perm ((pls true x.rs).map (·.1)) := hm.1
    have nd : ms.Nodup := hm'.nodup_iff.mpr (x.R.nd true)
    rw [List.getElem?_map] at ht
    cases el : ms[i]? with
    | none => rw [el] at ht; cases ht
    | some a =>
    rw [el] at ht
    have ht' := Option.some.inj ht
    subst ht'
    obtain ⟨⟨a', h, p⟩, m1, ea⟩ := List.mem_map.mp (hm'.mem_iff.mp (List.mem_of_getElem? el))
    have ea' : a' = a := ea
    subst ea'
    have hl : letAt true x.rs h p = some a' := mem_pls.mp m1
    have et : ms.take (i + 1) = ms.take i ++ [a'] := by rw [List.take_succ, el] <;> rfl
    have anew : a' ∉ ms.take i := fun m => by
      have e0 : ms = ms.take i ++ a' :: ms.drop (i + 1) := by
        have e2 := (List.getElem?_eq_some_iff.mp el).2
        rw [← e2, List.getElem_cons_drop, List.take_append_drop]
      rw [e0] at nd
      exact (List.nodup_append.mp nd).2.2 a' m a' (List.mem_cons_self ..) rfl
    have hd {Γ : Gam} {M : List Mut1} (h0 : Γ[0]? = some (some (x.t K))) (h2 : Γ[2]? = some (some (tn a'))) := e_m (Γ := Γ) (M := M) (C := cP K) (f := "heard") (E0 := E0) (as := fun x : {x : Pc × Nat × Nat × Nat // letAt true x.1.rs x.2.2.1 x.2.2.2 = some x.2.1} => [x.1.1.t K, tn x.1.2.1]) (r := fun x => tOpt (dLook (kn x.1.2.1) (plK false x.1.1.rs))) ⟨(x, a', h, p), hl⟩ (e_var h0) (ea_cons (e_var h2) ea_nil) (x.ok.no _ (by decide))
    refine tg_name ?_
    by_cases hh : ∃ h' p', letAt false x.rs h' p' = some a'
    · obtain ⟨h', p', hl'⟩ := hh
      have hk := dLook_pl x.R hl'
      have car : Car x.rs (a', (h, p), (h', p')) := ⟨hl, hl'⟩
      refine n_ifT (et_test (e_notNone (hd rfl rfl) (b := true) fun v G hv => ?_)) ?_
      · have hv' : (tOpt (dLook (kn a') (plK false x.rs))).at_ v G := hv
        rw [hk] at hv'
        obtain ⟨b, vs, rfl, _⟩ := hv'
        exact decide_eq_false fun z => by cases z
      · have hd2 := hd (Γ := [some (x.t K), some (tR l), some (tn a')]) (M := [(l, mD (cs.map crK))]) rfl rfl
        have hd3 := hd2.to (u := tPr (h', p')) (by show tOpt (dLook (kn a') (plK false x.rs)) = _; rw [hk] <;> rfl)
        refine n_dput (j := 0) (k := kn a') (t := tT [tPr (h, p), tPr (h', p')]) rfl (e_tup2 (e_m ⟨(x, a', h, p), hl⟩ (e_var rfl) (ea_cons (e_var rfl) ea_nil) (x.ok.no _ (by decide))) hd3) (e_var rfl) (e_var rfl) ?_ ?_ ?_
        · have c13 : cs.length ≤ 100 := by
            have : ∀ y ∈ cs.map (·.1), y < 1000 := fun y hy => by
              obtain ⟨c, hc, rfl⟩ := List.mem_map.mp hy
              have h1 := ((hcs.1 c).mp hc).1.1
              unfold letAt at h1
              cases z : evAt x.rs c.2.1.1 c.2.1.2 with
              | none => rw [z] at h1; cases h1
              | some e =>
                rw [z] at h1
                cases e with
                | do_ s => cases h1
                | hear l' => cases h1
                | say l' g t =>
                  have e' : l' = c.1 := by simpa [Ev.let_] using h1
                  rw [← e']
                  exact x.R.good.low _ _ _ _ _ z
            have h2 := nodup_len 1000 hcs.2 this
            rw [List.length_map] at h2
            have h3 : (cs.map (·.1)).length ≤ (ms.take i).length := by
              refine sub_len hcs.2 fun y hy => ?_
              obtain ⟨c, hc, rfl⟩ := List.mem_map.mp hy
              exact ((hcs.1 c).mp hc).2
            rw [List.length_map, List.length_take] at h3
            have h5 := hm'.length_eq
            rw [List.length_map] at h5
            have := x.R.pls true
            omega
          rw [List.length_map]
          omega
        · refine dLook_no.mpr fun m => anew ?_
          rw [List.map_map] at m
          obtain ⟨c, hc, e⟩ := List.mem_map.mp m
          have e' : c.1 = a' := kn_inj e
          rw [← e']
          exact ((hcs.1 c).mp hc).2
        · refine n_fg [2] (li (cs ++ [(a', (h, p), (h', p'))]) ⟨fun c => ?_, ?_⟩ rfl ?_)
          · rw [List.mem_append, hcs.1, List.mem_singleton, et, List.mem_append, List.mem_singleton]
            constructor
            · rintro (⟨h1, h2⟩ | rfl)
              · exact ⟨h1, .inl h2⟩
              · exact ⟨car, .inr rfl⟩
            · rintro ⟨h1, h2 | h2⟩
              · exact .inl ⟨h1, h2⟩
              · exact .inr (Car.uniq x.R h1 car h2)
          · rw [List.map_append]
            refine List.nodup_append.mpr ⟨hcs.2, by simp, fun y hy z hz e => ?_⟩
            have hz' : z = a' := by simpa using hz
            obtain ⟨c, hc, e2⟩ := List.mem_map.mp hy
            exact anew (by rw [← hz', ← e, ← e2]; exact ((hcs.1 c).mp hc).2)
          · rw [List.map_append]
            rfl
    · have hk : dLook (kn a') (plK false x.rs) = none := dLook_pl_none fun h' p' z => hh ⟨h', p', z⟩
      refine n_ifF (et_test (e_notNone (hd rfl rfl) (b := false) fun v G hv => ?_)) (n_next ?_)
      · have hv' : (tOpt (dLook (kn a') (plK false x.rs))).at_ v G := hv
        rw [hk] at hv'
        exact decide_eq_true hv'
      · refine n_fg [2] (li cs ⟨fun c => ?_, hcs.2⟩ rfl rfl)
        rw [hcs.1, et, List.mem_append, List.mem_singleton]
        constructor
        · exact fun z => ⟨z.1, .inl z.2⟩
        · rintro ⟨h1, h2 | h2⟩
          · exact ⟨h1, h2⟩
          · exact absurd ⟨_, _, h2 ▸ h1.2⟩ hh
  · have hm' : ms.Perm ((pls true x.rs).map (·.1)) := hm.1
    refine n_retD (i := 1) (j := 0) rfl rfl fun v H G z1 z2 z3 z4 => q v H G z1 z2 z3 ⟨cs, ⟨fun c => ?_, hcs.2⟩, z4⟩
    rw [hcs.1]
    constructor
    · exact fun z => z.1
    · intro z
      refine ⟨z, ?_⟩
      rw [List.length_map, List.take_length]
      exact hm'.mem_iff.mpr (List.mem_map.mpr ⟨(c.1, c.2.1), mem_pls.mpr z.1, rfl⟩)
end
end K89
set_option Elab.async false
set_option linter.all false
set_option maxRecDepth 100000
set_option maxHeartbeats 4000000
/-! K89W8: what stays of each house; steps back. -/
namespace K89
open PySem PySem.Spec PyProof.Rows L2
section
variable {F B : Hp} {Γ : Gam} {M : List Mut1} {ta tb tc te : TE} {t : Ty} {ts : List Ty} {K : PySem.W.Frag} {p : Addr} {nx bk ct : L2.St → Hp → Prop} {rt : VK}
theorem n_aug {i : Nat} {f : Int → Int → Int} {a b : Int} (hi : Γ[i]? = some (some (tI a))) (h : K89.E te Γ M (tI b)) (k : N nx F B (Γ.set i (some (tI (f a b)))) M) : N (tAug i te (ipI f) ⟨nx, rt, bk, ct⟩) F B Γ M := fun σ H G s g => by
  obtain ⟨v, e, av⟩ := g.get hi
  have av' : v = .int a := av
  subst av'
  exact ⟨_, e, h F B σ H G s g _ fun w H1 G1 s1 e1 a1 => ⟨a, b, rfl, a1, k _ H1 G1 s1 ((g.mono e1).set rfl i)⟩⟩
/-- xs[i] = e, e known by a property -/
theorem n_setLX {β : Type} {φ : β → Prop} {f : β → Ty} {j i : Nat} (hj : M[j]? = some (p, mL ts)) (h : K89.E te Γ M (tEx φ f)) (ha : K89.E ta Γ M (tR p)) (hb : K89.E tb Γ M (tn i)) (hi : i < ts.length) (k : ∀ y, φ y → N nx F B Γ (M.set j (p, mL (ts.set i (f y))))) :
    N (tAsg te (gSub ta tb L2.rSetL) ⟨nx, rt, bk, ct⟩) F B Γ M := fun σ H G s g => h F B σ H G s g _ fun v1 H1 G1 s1 e1 a1 => ha F B σ H1 G1 s1 (g.mono e1) _ fun v2 H2 G2 s2 e2 a2 =>
  hb F B σ H2 G2 s2 ((g.mono e1).mono e2) _ fun v3 H3 G3 s3 e3 a3 => by
    obtain ⟨y, hy, a1⟩ := a1
    have a2' : v2 = .ref p := a2
    have a3' : v3 = .int (i : Int) := a3
    subst a2' a3'
    obtain ⟨_, _, o, k3, ws, k4, k5⟩ := s3.mm p _ (List.mem_of_getElem? hj)
    subst k4
    exact ⟨p, ws, (i : Int), i, rfl, rfl, k3, ixN_nat (by rw [k5.length]; exact hi), k y hy _ _ G3 (s3.put hj ⟨_, rfl, k5.set ((f y).mono e3 ((f y).mono e2 a1)) i⟩) (((g.mono e1).mono e2).mono e3)⟩
theorem inV_nat {x : Nat} {ns : List Nat} : inV (.int (x : Int)) (ns.map fun n => V.int ((n : Nat) : Int)) = decide (x ∈ ns) := by
  unfold inV
  rw [List.any_map]
  refine Bool.eq_iff_iff.mpr ?_
  rw [List.any_eq_true, decide_eq_true_iff]
  constructor
  · rintro ⟨y, hy, e⟩
    have e' : eqV (.int (y : Int)) (.int (x : Int)) = true := e
    have e2 : (y : Int) = x := by simpa [eqV] using e'
    have : y = x := by omega
    exact this ▸ hy
  · intro h
    exact ⟨x, h, by show eqV (.int (x : Int)) (.int (x : Int)) = true; simp [eqV]⟩
theorem e_inN {x : Nat} {ns : List Nat} {neg tup : Bool} (ha : K89.E ta Γ M (tn x)) (hb : K89.E tb Γ M (tSq tup (ns.map tn))) : K89.E (tOp (rIn K neg) ta tb) Γ M (tB (if neg then !decide (x ∈ ns) else decide (x ∈ ns))) := by
  have e : ns.map tn = (ns.map fun n => V.int ((n : Nat) : Int)).map tV := by rw [List.map_map] <;> rfl
  rw [e] at hb
  have h := e_in (K := K) (neg := neg) ha hb rfl (List.all_eq_true.mpr fun v hv => by
    obtain ⟨n, _, rfl⟩ := List.mem_map.mp hv
    rfl)
  rw [inV_nat] at h
  exact h
theorem cut_take {α : Type} {xs : List α} {i : Nat} (hi : i ≤ xs.length) : cutA xs none (some (i : Int)) = xs.take i := by
  unfold cutA
  rw [HT.sIx_none, HT.sIx_nat, Nat.sub_zero, List.drop_zero, Nat.min_eq_left hi]
end
section
variable {P : Program} {w : World} {K : PySem.W.Frag} {mg : Str → Option Value}
structure Fq where
  x : Pc
  fs : List Nat
  lt : ∀ f ∈ fs, f < x.rs.length
  nd : fs.Nodup
theorem not_before {ns : List Nat} {i a : Nat} (nd : ns.Nodup) (h : ns[i]? = some a) : a ∉ ns.take i := fun m => by
  have e0 : ns = ns.take i ++ a :: ns.drop (i + 1) := by
    have e2 := (List.getElem?_eq_some_iff.mp h).2
    rw [← e2, List.getElem_cons_drop, List.take_append_drop]
  rw [e0] at nd
  exact (List.nodup_append.mp nd).2.2 a m a (List.mem_cons_self ..) rfl
theorem house_ok {n h : Nat} (hh : h < n) : tB (decide ((h : Int) ≥ 0) && decide ((h : Int) < (n : Int))) = tB true := by
  rw [decide_eq_true (by omega), decide_eq_true (by omega)] <;> rfl
theorem f_want_fallen (T : En K mg) : Cal P w K mg "want_fallen" 4 ["picture", "fallen"] (spT (fun y : Fq => [y.x.t K, tL (y.fs.map tn)]) (fun _ => tN)) := by
  have S : FnScope ["picture", "fallen", "position", "house"] ["picture", "fallen"] d_want_fallen.scope := ⟨rfl, rfl, rfl, by decide +kernel, rfl, by decide +kernel, by decide +kernel⟩
  refine Cal.mk' (n := 2) T 25 19 rfl rfl rfl rfl rfl S rfl (fun _ => rfl) (fun _ _ _ _ _ _ us hl => match us, hl with | [_, _], _ => rfl) fun base cdv A outer s H EX hr => ⟨_, (pss_cons (ps_if (pt_not (pt_val (pe_f (f_is_list T) (hr.mono (by decide)) rfl (pa_cons (pv 1) pa_nil)))) pss_never pss_nil)
      (pss_one (ps_for PassesOwn.never rfl (pi_enum rfl T.enumerate (pa_cons (pv 1) pa_nil)) (pg_tup rfl (pgs_cons (pg_name (i := 2) S.nd rfl (Or.inl rfl)) (pgs_cons (pg_name (i := 3) S.nd rfl (Or.inl rfl)) pgs_nil))) (pss_one (ps_if (PW.pt (pw_or (pt_not (pt_val (pe_f (f_is_house T) hr rfl (pa_cons (pv 0) (pa_cons (pv 3) pa_nil))))) (pw_or1 (pt_cmpR op_in_seq (pv 3) (pe_slice sl_list (pv 1) po_none (po_some (pv 2))) rfl)))) pss_never pss_nil))))), ?_⟩
  rintro ⟨x, fs, lt, nd⟩ F B Q q
  refine n_seq (n_ifF (et_not (b := true) (et_B (e_f (false, fs.map tn) (ea_cons (e_var rfl) ea_nil)))) (n_next ?_))
  refine n_for (α := Unit) (fun _ _ => True) (fun _ => [some (x.t K), some (tL (fs.map tn)), none, none]) (fun _ => []) (src_enum (ts := fs.map tn) (ea_cons (e_var rfl) ea_nil)) () trivial rfl rfl (fun B' eB i t _ ht _ => ?_) fun _ _ => n_retNx q
  obtain ⟨u, hu, rfl⟩ := enum_at ht
  rw [List.getElem?_map] at hu
  cases ef : fs[i]? with
  | none => rw [ef] at hu; cases hu
  | some f =>
  rw [ef] at hu
  have hu' := Option.some.inj hu
  subst hu'
  have hi := (List.getElem?_eq_some_iff.mp ef).1
  refine tg_2 (n_ifF (et_or (b := false) (c := false) (et_not (b := true) (et_B ((e_f (x, (f : Int)) (ea_cons (e_var rfl) (ea_cons (e_var rfl) ea_nil))).to (house_ok (lt f (List.mem_of_getElem? ef)))))) fun _ => et_test ((e_inN (tup := false) (ns := fs.take i) (e_var rfl) ((en_slL (lo := none) (hi := some (i : Int)) (e_var rfl) eo_none (eo_some (e_var rfl))).l.to ?_)).to ?_)) (n_next (n_fg [2, 3] (li () trivial rfl rfl))))
  · rw [cut_take (by rw [List.length_map]; omega), List.map_take]
  · exact congrArg tB (decide_eq_false (not_before nd ef))
structure Wq where
  x : Pc
  tup : Bool
  ws : List Nat
  car : ∀ l ∈ ws, ∃ c, Car x.rs c ∧ c.1 = l
  nd : ws.Nodup
theorem f_want_written (T : En K mg) : Cal P w K mg "want_written" 6 ["picture", "written"] (spT (fun y : Wq => [y.x.t K, tSq y.tup (y.ws.map tn)]) (fun _ => tN)) := by
  have S : FnScope ["picture", "written", "letters", "position", "letter"] ["picture", "written"] d_want_written.scope := ⟨rfl, rfl, rfl, by decide +kernel, rfl, by decide +kernel, by decide +kernel⟩
  refine Cal.mk' (n := 3) T 26 20 rfl rfl rfl rfl rfl S rfl (fun _ => rfl) (fun _ _ _ _ _ _ us hl => match us, hl with | [_, _], _ => rfl) fun base cdv A outer s H EX hr => ⟨_, (pss_cons (ps_if (pt_not (pt_val (pe_f (f_is_list T) (hr.mono (by decide)) rfl (pa_cons (pv 1) pa_nil)))) pss_never pss_nil)
      (pss_cons (ps_set (i := 2) S.nd rfl (Or.inl rfl) (pe_f (f_carried T) hr rfl (pa_cons (pv 0) pa_nil)))
      (pss_one (ps_for PassesOwn.never rfl (pi_or (pi_enum rfl T.enumerate (pa_cons (pv 1) pa_nil)) (pi_enumT rfl T.enumerate (pa_cons (pv 1) pa_nil))) (pg_tup rfl (pgs_cons (pg_name (i := 3) S.nd rfl (Or.inl rfl)) (pgs_cons (pg_name (i := 4) S.nd rfl (Or.inl rfl)) pgs_nil))) (pss_one (ps_if (PW.pt (pw_or (pt_not (pt_val (pe_f (f_is_count T) (hr.mono (by decide)) rfl (pa_cons (pv 4) pa_nil)))) (pw_or (pt_cmp (pc_dnotin (hu_of hr) (pv 4) (pv 2)) rfl) (pw_or1 (pt_cmpR op_in_seq (pv 4) (pe_or2 (pe_slice sl_list (pv 1) po_none (po_some (pv 3))) (pe_slice sl_tupA (pv 1) po_none (po_some (pv 3)))) rfl))))) pss_never pss_nil)))))), ?_⟩
  rintro ⟨x, tup, ws, car, nd⟩ F B Q q
  refine n_seq (n_ifF (et_not (b := true) (et_B (e_f (tup, ws.map tn) (ea_cons (e_var rfl) ea_nil)))) (n_next ?_))
  refine n_seq (n_asg (e_f x (ea_cons (e_var rfl) ea_nil)) ?_)
  refine n_ex (i := 2) rfl fun cs hcs => ?_
  refine n_for (α := Unit) (fun _ _ => True) (fun _ => [some (x.t K), some (tSq tup (ws.map tn)), some (tD (cs.map crK)), none, none]) (fun _ => []) (src_enumQ (ts := ws.map tn) (e_var rfl)) () trivial rfl rfl (fun B' eB i t _ ht _ => ?_) fun _ _ => n_retNx q
  obtain ⟨u, hu, rfl⟩ := enum_at ht
  rw [List.getElem?_map] at hu
  cases ef : ws[i]? with
  | none => rw [ef] at hu; cases hu
  | some f =>
  rw [ef] at hu
  have hu' := Option.some.inj hu
  subst hu'
  have hi := (List.getElem?_eq_some_iff.mp ef).1
  obtain ⟨c, hc, rfl⟩ := car f (List.mem_of_getElem? ef)
  refine tg_2 (n_ifF (et_or (b := false) (c := false) (et_not (b := true) (et_B ((e_f (c.1 : Int) (ea_cons (e_var rfl) ea_nil)).to (congrArg tB (decide_eq_true (by omega)))))) fun _ => et_or (b := false) (c := false) (et_B ((e_dnotin (k := kn c.1) (e_var rfl) (e_var rfl)).to (by rw [dLook_cr x.R hcs hc] <;> rfl))) fun _ => et_test ((e_inN (tup := tup) (ns := ws.take i) (e_var rfl) ((e_slQ (lo := none) (hi := some (i : Int)) (e_var rfl) eo_none (eo_some (e_var rfl))).to ?_)).to ?_)) (n_next (n_fg [3, 4] (li () trivial rfl rfl))))
  · rw [cut_take (by rw [List.length_map]; omega), List.map_take]
  · exact congrArg tB (decide_eq_false (not_before nd ef))
/-- all four -/
structure Aq where
  x : Pc
  k : Ka x.rs
  fs : List Nat
  flt : ∀ f ∈ fs, f < x.rs.length
  fnd : fs.Nodup
  tup : Bool
  ws : List Nat
  car : ∀ l ∈ ws, ∃ c, Car x.rs c ∧ c.1 = l
  wnd : ws.Nodup
abbrev Aq.as (K : PySem.W.Frag) (y : Aq) : List Ty := [y.x.t K, y.k.t, tL (y.fs.map tn), tSq y.tup (y.ws.map tn)]
theorem f_want_all (T : En K mg) : Cal P w K mg "want_all" 7 ["picture", "kept", "fallen", "written"] (spT (fun y : Aq => y.as K) (fun _ => tN)) := by
  have S : FnScope ["picture", "kept", "fallen", "written"] ["picture", "kept", "fallen", "written"] d_want_all.scope := ⟨rfl, rfl, rfl, by decide +kernel, rfl, by decide +kernel, by decide +kernel⟩
  refine Cal.mk' (n := 0) T 27 21 rfl rfl rfl rfl rfl S rfl (fun _ => rfl) (fun _ _ _ _ _ _ us hl => match us, hl with | [_, _, _, _], _ => rfl) fun base cdv A outer s H EX hr => ⟨_, (pss_cons (ps_expr (pe_f (f_want_kept T) (hr.mono (by decide)) rfl (pa_cons (pv 0) (pa_cons (pv 1) pa_nil))))
      (pss_cons (ps_expr (pe_f (f_want_fallen T) (hr.mono (by decide)) rfl (pa_cons (pv 0) (pa_cons (pv 2) pa_nil))))
      (pss_one (ps_expr (pe_f (f_want_written T) hr rfl (pa_cons (pv 0) (pa_cons (pv 3) pa_nil))))))), ?_⟩
  rintro y F B Q q
  refine n_seq (n_drop (e_f ⟨y.x, y.k⟩ (ea_cons (e_var rfl) (ea_cons (e_var rfl) ea_nil))) ?_)
  refine n_seq (n_drop (e_f ⟨y.x, y.fs, y.flt, y.fnd⟩ (ea_cons (e_var rfl) (ea_cons (e_var rfl) ea_nil))) ?_)
  exact n_drop (e_f ⟨y.x, y.tup, y.ws, y.car, y.wnd⟩ (ea_cons (e_var rfl) (ea_cons (e_var rfl) ea_nil))) (n_retNx q)
def Stop (rs : List Row) (ws : List Nat) (h p : Nat) : Prop := ∃ l, evAt rs h p = some (.hear l) ∧ l ∉ ws
def Base (rs : List Row) (fs : List Nat) (h s : Nat) : Prop := h ∉ fs ∨ s < sz rs h ∨ sz rs h = 0
def Reach (rs : List Row) (ke : List Nat) (fs ws : List Nat) (h z : Nat) : Prop := z ≤ sz rs h ∧ ∃ b ∈ ke, Base rs fs h b ∧ b ≤ z ∧ ∀ p, b ≤ p → p < z → ¬ Stop rs ws h p
structure LeftP (rs : List Row) (ke : List Nat) (fs ws : List Nat) (h : Nat) (zs : List Nat) : Prop where
  zero : 0 ∈ zs
  re : ∀ z ∈ zs, Reach rs ke fs ws h z
  len : zs.length ≤ 14
open Classical in
noncomputable def goS (rs : List Row) (ws : List Nat) (h st : Nat) : Bool := decide (st < sz rs h) && !decide (Stop rs ws h st)
open Classical in
theorem goS_iff {rs : List Row} {ws : List Nat} {h st : Nat} : goS rs ws h st = true ↔ st < sz rs h ∧ ¬ Stop rs ws h st := by
  unfold goS
  rw [Bool.and_eq_true, decide_eq_true_iff, Bool.not_eq_true', decide_eq_false_iff_not]
theorem f_states_left (T : En K mg) : Cal P w K mg "states_left" 2 ["picture", "kept", "fallen", "written", "house"] (spT (fun y : {y : Aq × Nat // y.2 < y.1.x.rs.length} => y.1.1.as K ++ [tn y.1.2]) (fun y => tEx (LeftP y.1.1.x.rs (y.1.1.k.ke.getD y.1.2 []) y.1.1.fs y.1.1.ws y.1.2) fun zs => tL (zs.map tn))) := by
  have S : FnScope ["picture", "kept", "fallen", "written", "house", "row", "size", "found", "state"] ["picture", "kept", "fallen", "written", "house"] d_states_left.scope := ⟨rfl, rfl, rfl, by decide +kernel, rfl, by decide +kernel, by decide +kernel⟩
  refine Cal.mk' (n := 4) T 28 22 rfl rfl rfl rfl rfl S rfl (fun _ => rfl) (fun _ _ _ _ _ _ us hl => match us, hl with | [_, _, _, _, _], _ => rfl) fun base cdv A outer s H EX hr => ⟨_, (pss_cons (ps_par (i := 5) (j := 6) rfl S.nd rfl rfl (by decide) rfl rfl (pa_cons (pe_ix ix_list (pe_m0 T.cls (T.meth 84) (m_rows T) hr (pv 0)) (pv 4) (fun _ _ => rfl)) (pa_cons (pe_ix ix_tup (pe_fld (pv 0) rfl) (pv 4) (fun _ _ => rfl)) pa_nil)) rfl)
      (pss_cons (ps_set (i := 7) S.nd rfl (Or.inl rfl) pe_dnewK)
      (pss_cons (ps_for PassesOwn.never rfl (pi_sq (pe_dget (hu_of hr) (pv 1) (pv 4) (fun _ _ => rfl))) (pg_name (i := 8) S.nd rfl (Or.inl rfl)) (pss_one (ps_if (PW.pt (pw_or (pt_cmpR op_notIn_seq (pv 4) (pv 2) rfl) (pw_or (pt_cmpR op_lt (pv 8) (pv 6) (nomark _)) (pw_or1 (pt_cmpR op_eq (pv 6) pe_int (nomark _)))))) (pss_cons (ps_dput (hu_of hr) (pv 7) (pv 8) pe_bl rfl)
      (pss_one (ps_while PassesOwn.never (PW.pt (pw_and (pt_cmpR op_lt (pv 8) (pv 6) (nomark _)) (pw_and1 (PW.pt (pw_or (pt_cmpR op_ne (pe_ix ix_tup (pe_ix ix_list (pv 5) (pv 8) (fun _ _ => rfl)) pe_int (fun _ _ => rfl)) pe_str (nomark _)) (pw_or1 (pt_cmpR op_in_seq (pe_ix ix_tup (pe_ix ix_list (pv 5) (pv 8) (fun _ _ => rfl)) pe_int (fun _ _ => rfl)) (pv 3) rfl))))))) (pss_cons (ps_aug (i := 8) S.nd rfl (Or.inl rfl) pe_int ip_add)
      (pss_one (ps_dput (hu_of hr) (pv 7) (pv 8) pe_bl rfl)))))) pss_nil)))
      (pss_one (ps_ret (pe_callB (call_sDI rfl) rfl T.sorted bo_sorted (pa_cons (pv 7) pa_nil))))))), ?_⟩
  rintro ⟨⟨⟨x, k, fs, flt, fnd, tup, ws, car, wnd⟩, h⟩, hh⟩ F B Q q
  have hh : h < x.rs.length := hh
  have ok := k.ok h hh
  have s13 := sz13 x h
  obtain ⟨r, hr'⟩ : ∃ r, x.rs[h]? = some r := ⟨_, List.getElem?_eq_getElem hh⟩
  refine n_seq (n_par (ea_cons (e_ixL (e_m x (e_var rfl) ea_nil (x.ok.no _ (by decide))) (e_var rfl) (rows_at (tup := false) hr')) (ea_cons (e_ixT (i := (h : Int)) (e_fld (e_var rfl) T.cls T.sizes x.ok.siz) (e_var rfl) (map_at (sizes_at hh))) ea_nil)) ?_)
  refine n_seq (n_asgN en_dnew fun fp => ?_)
  refine n_seq (n_for (α := List Nat) (fun i ks => (ks.Nodup ∧ ∀ z ∈ ks, Reach x.rs (k.ke.getD h []) fs ws h z) ∧ (0 < i → 0 ∈ ks)) (fun _ => [some (x.t K), some k.t, some (tL (fs.map tn)), some (tSq tup (ws.map tn)), some (tn h), some (tRow false r), some (tn (sz x.rs h)), some (tR fp), none]) (fun ks => [(fp, mD (ks.map fun k => (kn k, tB true)))])
    (src_sq (ts := (k.ke.getD h []).map tn) (tup := k.tup) (e_dget (k := kn h) (e_var rfl) (e_var rfl) (k.look h hh))) [] ⟨⟨List.nodup_nil, fun z hz => by cases hz⟩, fun z => absurd z (Nat.lt_irrefl 0)⟩ rfl rfl (fun B' eB i t ks ht hks => ?_) fun ks hks => ?_)
  · rw [List.getElem?_map] at ht
    cases es : (k.ke.getD h [])[i]? with
    | none => rw [es] at ht; cases ht
    | some s0 =>
    rw [es] at ht
    have ht' := Option.some.inj ht
    subst ht'
    have ms := List.mem_of_getElem? es
    have sle := ok.le ms
    have small : ∀ {ks : List Nat}, ks.Nodup → (∀ z ∈ ks, Reach x.rs (k.ke.getD h []) fs ws h z) → ks.length < 100000 := fun {ks} a b => by
      have := nodup_len 14 a fun z hz => by have := (b z hz).1; omega
      omega
    have z0 : i = 0 → s0 = 0 := fun e => by
      subst e
      rw [ok.hd] at es
      cases es
      rfl
    have tst : K89.ETb (tOr (tTest (tOp (rIn K true) (tVar 4) (tVar 2))) (tOr (tTest (tOp (rI0 fun i j => .bl (decide (i < j))) (tVar 8) (tVar 6))) (tTest (tOp rEq (tVar 6) (tC (.int 0)))))) [some (x.t K), some k.t, some (tL (fs.map tn)), some (tSq tup (ws.map tn)), some (tn h), some (tRow false r), some (tn (sz x.rs h)), some (tR fp), some (tn s0)] [(fp, mD (ks.map fun k => (kn k, tB true)))]
        ((!decide (h ∈ fs)) || (decide ((s0 : Int) < (sz x.rs h : Int)) || decide (V.int (sz x.rs h : Int) = V.int 0))) :=
      et_or (et_test (e_inN (tup := false) (neg := true) (e_var rfl) (e_var rfl))) fun _ => et_or (et_test (e_op0 (e_var rfl) (e_var rfl))) fun _ => et_test (e_eq (e_var rfl) e_c rfl)
    have tb : ((!decide (h ∈ fs)) || (decide ((s0 : Int) < (sz x.rs h : Int)) || decide (V.int (sz x.rs h : Int) = V.int 0))) = true ↔ Base x.rs fs h s0 := by
      have e0 : decide (V.int (sz x.rs h : Int) = V.int 0) = decide (sz x.rs h = 0) := vnat (a := sz x.rs h) (b := 0)
      rw [e0, Bool.or_eq_true, Bool.or_eq_true, Bool.not_eq_true', decide_eq_false_iff_not, decide_eq_true_iff, decide_eq_true_iff]
      unfold Base
      exact or_congr Iff.rfl (or_congr (by omega) Iff.rfl)
    refine tg_name (n_if tst (fun hb => ?_) fun hb => ?_)
    · have bs := tb.mp hb.symm
      have r0 : Reach x.rs (k.ke.getD h []) fs ws h s0 := ⟨sle, s0, ms, bs, Nat.le_refl _, fun p h1 h2 => absurd h1 (by omega)⟩
      have hks2 : (addK ks s0).Nodup ∧ ∀ z ∈ addK ks s0, Reach x.rs (k.ke.getD h []) fs ws h z := ⟨addK_nodup hks.1.1, fun z hz => by
        rcases mem_addK.mp hz with e | e
        · exact hks.1.2 z e
        · rw [e]
          exact r0⟩
      refine n_seq (n_dputU (j := 0) (k := s0) rfl e_c (e_var rfl) (e_var rfl) (small hks.1.1 hks.1.2) ?_)
      refine n_while (α := Nat × List Nat) (fun n y => n = sz x.rs h - y.1 ∧ Reach x.rs (k.ke.getD h []) fs ws h y.1 ∧ (y.2.Nodup ∧ ∀ z ∈ y.2, Reach x.rs (k.ke.getD h []) fs ws h z) ∧ (0 ∈ ks ∨ s0 = 0 → 0 ∈ y.2)) (fun y => [some (x.t K), some k.t, some (tL (fs.map tn)), some (tSq tup (ws.map tn)), some (tn h), some (tRow false r), some (tn (sz x.rs h)), some (tR fp), some (tn y.1)]) (fun y => [(fp, mD (y.2.map fun k => (kn k, tB true)))]) _ (s0, addK ks s0) ⟨rfl, r0, hks2, fun z => mem_addK.mpr (z.imp id fun e => e.symm)⟩ rfl rfl fun n y hy => ?_
      obtain ⟨st, ks2⟩ := y
      obtain ⟨en, hst, hk2, hz2⟩ := hy
      refine ⟨fun c => c = goS x.rs ws h st, ?_, fun z => ?_, fun z => ?_⟩
      · by_cases lt : st < sz x.rs h
        · obtain ⟨e, he⟩ := evAt_some lt
          have hp : r[st]? = some e := by
            unfold evAt at he
            rw [hr'] at he
            exact he
          have lt' : ((st : Nat) : Int) < (sz x.rs h : Int) := by omega
          by_cases hw : e.tag = "hear"
          · obtain ⟨l, rfl⟩ : ∃ l, e = .hear l := by
              cases e with
              | do_ s => exact absurd hw t_dh
              | say l g t => exact absurd hw t_sh
              | hear l => exact ⟨l, rfl⟩
            refine (et_and (b := true) (c := decide (l ∈ ws)) (et_test ((e_op0 (e_var rfl) (e_var rfl)).to (congrArg tB (decide_eq_true lt')))) fun _ => et_or (b := false) (c := decide (l ∈ ws)) (et_test (e_neF (e_ixT (e_ixL (e_var rfl) (e_var rfl) (row_at hp)) e_c rfl) e_c rfl rfl)) fun _ => et_test (e_inN (neg := false) (e_ixT (e_ixL (e_var rfl) (e_var rfl) (row_at hp)) e_c rfl) (e_var rfl))).to ?_
            refine Bool.eq_iff_iff.mpr ?_
            rw [goS_iff, Bool.true_and, decide_eq_true_iff]
            constructor
            · rintro m
              refine ⟨lt, fun ⟨l', h1, h2⟩ => h2 ?_⟩
              rw [he] at h1
              cases h1
              exact m
            · rintro ⟨_, ns⟩
              by_cases m : l ∈ ws
              · exact m
              · exact absurd ⟨l, he, m⟩ ns
          · refine (et_and (b := true) (c := true) (et_test ((e_op0 (e_var rfl) (e_var rfl)).to (congrArg tB (decide_eq_true lt')))) fun _ => et_or (b := true) (c := true) (et_test (e_neT (e_ixT (e_ixL (e_var rfl) (e_var rfl) (row_at hp)) e_c (tag_at e)) e_c rfl (s_ne hw))) fun z => nomatch z).to ?_
            refine (goS_iff.mpr ⟨lt, fun ⟨l, h1, _⟩ => ?_⟩).symm
            rw [he] at h1
            cases h1
            exact hw rfl
        · have lt' : ¬ ((st : Nat) : Int) < (sz x.rs h : Int) := by omega
          refine (et_and (b := false) (c := true) (et_test ((e_op0 (e_var rfl) (e_var rfl)).to (congrArg tB (decide_eq_false lt')))) fun z => nomatch z).to ?_
          refine Eq.symm (Bool.eq_false_iff.mpr fun z => lt (goS_iff.mp z).1)
      · obtain ⟨lt, ns⟩ := goS_iff.mp z.symm
        have r1 : Reach x.rs (k.ke.getD h []) fs ws h (st + 1) := by
          obtain ⟨_, b, h1, h2, h3, h4⟩ := hst
          refine ⟨lt, b, h1, h2, by omega, fun p h5 h6 => ?_⟩
          by_cases e : p = st
          · rw [e]
            exact ns
          · exact h4 p h5 (by omega)
        refine n_seq (n_aug (i := 8) (a := (st : Int)) rfl e_c ?_)
        refine n_dputU (j := 0) (k := st + 1) rfl e_c (e_var rfl) (e_var rfl) (small hk2.1 hk2.2) ?_
        exact lw (sz x.rs h - (st + 1)) (st + 1, addK ks2 (st + 1)) (by omega) ⟨rfl, r1, ⟨addK_nodup hk2.1, fun z hz => by
          rcases mem_addK.mp hz with e | e
          · exact hk2.2 z e
          · rw [e]
            exact r1⟩, fun z => mem_addK.mpr (.inl (hz2 z))⟩ rfl rfl
      · refine n_fg [8] (li ks2 ⟨hk2, fun _ => hz2 ?_⟩ rfl rfl)
        by_cases e : i = 0
        · exact .inr (z0 e)
        · exact .inl (hks.2 (by omega))
    · refine n_next (n_fg [8] (li ks ⟨hks.1, fun _ => ?_⟩ rfl rfl))
      by_cases e : i = 0
      · refine absurd (tb.mpr ?_) (by rw [← hb]; decide)
        rw [z0 e]
        unfold Base
        omega
      · exact hks.2 (by omega)
  · rw [List.length_map] at hks
    have h0 : 0 < (k.ke.getD h []).length := List.length_pos_iff.mpr ok.ne
    refine n_ret (EN.lx (en_sortedM (ns := ks) (e_var rfl) (List.mem_cons_self ..) (by rw [List.map_map] <;> rfl) ?_)) fun v H G z1 z2 z3 z4 => ?_
    · have := nodup_len 14 hks.1.1 fun z hz => by have := (hks.1.2 z hz).1; omega
      omega
    · obtain ⟨ms, ⟨m1, m2⟩, z5⟩ := z4
      exact q v H G z1 z2 z3 ⟨ms, ⟨m1.mem_iff.mpr (hks.2 h0), fun z hz => hks.1.2 z (m1.mem_iff.mp hz), by rw [m1.length_eq]; exact nodup_len 14 hks.1.1 fun z hz => by have := (hks.1.2 z hz).1; omega⟩, z5⟩
theorem f_all_left (T : En K mg) : Cal P w K mg "all_left" 3 ["picture", "kept", "fallen", "written"] (spT (fun y : Aq => y.as K) (fun y => tEx (fun zss : List (List Nat) => zss.length = y.x.rs.length ∧ ∀ h z, h < y.x.rs.length → zss[h]? = some z → LeftP y.x.rs (y.k.ke.getD h []) y.fs y.ws h z) fun zss => tL (zss.map fun z => tL (z.map tn)))) := by
  have S : FnScope ["picture", "kept", "fallen", "written", "house"] ["picture", "kept", "fallen", "written"] d_all_left.scope := ⟨rfl, rfl, rfl, by decide +kernel, rfl, by decide +kernel, by decide +kernel⟩
  refine Cal.mk' (n := 1) T 29 23 rfl rfl rfl rfl rfl S rfl (fun _ => rfl) (fun _ _ _ _ _ _ us hl => match us, hl with | [_, _, _, _], _ => rfl) fun base cdv A outer s H EX hr => ⟨_, (pss_one (ps_ret (pe_lc (own := [("house", 4)]) rfl S.nd (pi_range1 rfl T.range (pa_cons (pe_g T.cls (g_houses T) hr (pv 0) rfl) pa_nil)) (blkOk_by (own := [("house", 4)]) (N := ["picture", "kept", "fallen", "written", "house"]) (sc := d_all_left.scope) (by decide +kernel)) (fun _ _ _ _ _ => (pg_name (i := 4) S.nd rfl (Or.inl rfl))) (fun _ _ _ _ _ => pts_nil) (fun _ _ _ _ _ => (pe_f (f_states_left T) hr rfl (pa_cons (pv 0) (pa_cons (pv 1) (pa_cons (pv 2) (pa_cons (pv 3) (pa_cons (pv 4) pa_nil)))))))))), ?_⟩
  rintro y F B Q q
  have n4 := y.x.R.n4
  refine n_ret ((e_exs (xs := List.range y.x.rs.length) (EN.l (en_map (f := tn) (u := fun h => tEx (LeftP y.x.rs (y.k.ke.getD h []) y.fs y.ws h) fun zs => tL (zs.map tn)) (src_range1 (ea_cons (e_p y.x (e_var rfl)) ea_nil) (by omega)) (by rw [List.length_range]; omega) fun h hm => ⟨_, tc_name (by decide), ?_⟩))).imp fun v G a => ?_) q
  · exact e_f ⟨(y, h), List.mem_range.mp hm⟩ (ea_cons (e_var rfl) (ea_cons (e_var rfl) (ea_cons (e_var rfl) (ea_cons (e_var rfl) (ea_cons (e_var rfl) ea_nil)))))
  · obtain ⟨zss, ⟨h1, h2⟩, h3⟩ := a
    rw [List.length_range] at h1
    exact ⟨zss, ⟨h1, fun h z hh hz => h2 h h z (List.getElem?_range hh) hz⟩, h3⟩
theorem f_greatest_until (T : En K mg) : Cal P w K mg "greatest_until" 1 ["states", "place"] (spT (fun y : {y : List Nat × Nat // y.1.length ≤ 50000 ∧ ∃ z ∈ y.1, z ≤ y.2} => [tL (y.1.1.map tn), tn y.1.2]) (fun y => tEx (fun m => m ∈ y.1.1 ∧ m ≤ y.1.2) tn)) := by
  have S : FnScope ["states", "place", "state"] ["states", "place"] d_greatest_until.scope := ⟨rfl, rfl, rfl, by decide +kernel, rfl, by decide +kernel, by decide +kernel⟩
  refine Cal.mk' (n := 1) T 30 24 rfl rfl rfl rfl rfl S rfl (fun _ => rfl) (fun _ _ _ _ _ _ us hl => match us, hl with | [_, _], _ => rfl) fun base cdv A outer s H EX hr => ⟨_, (pss_one (ps_ret (pe_callB (cr_max rfl) rfl T.max bo_max (pa_cons (pe_lc (own := [("state", 2)]) rfl S.nd (pi_list (pv 0)) (blkOk_by (own := [("state", 2)]) (N := ["states", "place", "state"]) (sc := d_greatest_until.scope) (by decide +kernel)) (fun _ _ _ _ _ => (pg_name (i := 2) S.nd rfl (Or.inl rfl))) (fun _ _ _ _ _ => (pts_one (pt_cmpR op_le (pv 2) (pv 1) (nomark _)))) (fun _ _ _ _ _ => (pv 2))) pa_nil)))), ?_⟩
  rintro ⟨⟨zs, pl⟩, hl, hz⟩ F B Q q
  obtain ⟨z0, hz0, hz1⟩ : ∃ z ∈ zs, z ≤ pl := hz
  have hl' : zs.length ≤ 50000 := hl
  refine n_ret ((e_bi1 (t := tL ((zs.filter fun z => decide (z ≤ pl)).map tn)) (EN.l (en_fil (xs := zs) (f := tn) (u := tn) (c := fun z => decide (z ≤ pl)) (src_list (e_var rfl)) hl' fun z hz => ⟨_, tc_name (by decide), et_test ((e_op0 (i := (z : Int)) (j := (pl : Int)) (e_var rfl) (e_var rfl)).to (congrArg tB (decide_eq_decide.mpr (by omega)))), fun _ => e_var rfl⟩)) (bi_max ?_)).imp fun v G a => ?_) q
  · intro e
    have m : z0 ∈ zs.filter fun z => decide (z ≤ pl) := List.mem_filter.mpr ⟨hz0, decide_eq_true hz1⟩
    rw [e] at m
    cases m
  · obtain ⟨m, ⟨h1, _⟩, h3⟩ := a
    have h4 := List.mem_filter.mp h1
    exact ⟨m, ⟨h4.1, of_decide_eq_true h4.2⟩, h3⟩
end
end K89
set_option Elab.async false
set_option linter.all false
set_option maxRecDepth 100000
set_option maxHeartbeats 4000000
/-! K89W9: steps back, what remains, what is undone. -/
namespace K89
open PySem PySem.Spec PyProof.Rows L2
def appMin (base : List Nat) (fd : List (Nat × Nat)) : List Nat := fd.foldl (fun c z => c.set z.1 (min (c.getD z.1 0) z.2)) base
theorem appMin_snoc {base : List Nat} {fd : List (Nat × Nat)} {z : Nat × Nat} : appMin base (fd ++ [z]) = (appMin base fd).set z.1 (min ((appMin base fd).getD z.1 0) z.2) := by
  unfold appMin
  rw [List.foldl_append] <;> rfl
theorem appMin_len {base : List Nat} : ∀ {fd : List (Nat × Nat)}, (appMin base fd).length = base.length := by
  intro fd
  unfold appMin
  induction fd generalizing base with
  | nil => rfl
  | cons z fd ih =>
    show (List.foldl _ (base.set z.1 _) fd).length = _
    rw [ih, List.length_set]
def lasts (zss : List (List Nat)) : List Nat := zss.map fun z => z.getLastD 0
theorem getD_at {xs : List Nat} {i : Nat} (h : i < xs.length) : xs[i]? = some (xs.getD i 0) := by
  rw [List.getD_eq_getElem?_getD, List.getElem?_eq_getElem h] <;> rfl
theorem set_getD {xs : List Nat} {i : Nat} : xs.set i (xs.getD i 0) = xs := by
  refine List.ext_getElem? fun k => ?_
  rw [List.getElem?_set]
  by_cases z : i = k
  · subst z
    rw [if_pos rfl]
    by_cases h : i < xs.length
    · rw [if_pos h, getD_at h]
    · rw [if_neg h, List.getElem?_eq_none (by omega)]
  · rw [if_neg z]
theorem appMin_same {base : List Nat} : ∀ {hs : List Nat}, appMin base (hs.map fun h => (h, base.getD h 0)) = base := by
  intro hs
  unfold appMin
  induction hs with
  | nil => rfl
  | cons h hs ih =>
    show List.foldl _ (base.set h (min (base.getD h 0) (base.getD h 0))) _ = _
    rw [Nat.min_self, set_getD]
    exact ih
def ClosedAt (cut : List Nat) (c : Cr) : Prop := cut.getD c.2.1.1 0 ≤ c.2.1.2 → cut.getD c.2.2.1 0 ≤ c.2.2.2
def Closed (rs : List Row) (cut : List Nat) : Prop := ∀ c, Car rs c → ClosedAt cut c
def tFd (z : Nat × Nat) : Ty := tT [tn z.1, tn z.2, tAny]
theorem sum_set_lt : ∀ {xs : List Nat} {i x : Nat}, i < xs.length → x < xs.getD i 0 → (xs.set i x).sum < xs.sum
  | [], _, _, h, _ => by simp at h
  | y :: xs, 0, x, _, h => by
    have h' : x < y := h
    simp only [List.set_cons_zero, List.sum_cons]
    omega
  | y :: xs, i + 1, x, hi, h => by
    have := sum_set_lt (xs := xs) (i := i) (x := x) (by simpa using hi) (by simpa using h)
    simp only [List.set_cons_succ, List.sum_cons]
    omega
theorem sum_le_mul : ∀ {xs : List Nat}, (∀ x ∈ xs, x ≤ 13) → xs.sum ≤ 13 * xs.length
  | [], _ => Nat.le_refl _
  | x :: xs, h => by
    have h1 := h x (List.mem_cons_self ..)
    have h2 := sum_le_mul (xs := xs) fun y hy => h y (List.mem_cons_of_mem _ hy)
    simp only [List.sum_cons, List.length_cons]
    omega
theorem last_mem {z : List Nat} (h : 0 ∈ z) : z.getLast? = some (z.getLastD 0) ∧ z.getLastD 0 ∈ z := by
  have hl : z.length - 1 < z.length := by
    have := List.length_pos_of_mem h
    omega
  have e : z.getLast? = some z[z.length - 1] := by rw [List.getLast?_eq_getElem?, List.getElem?_eq_getElem hl]
  have e2 : z.getLastD 0 = z[z.length - 1] := by rw [List.getLastD_eq_getLast?, e] <;> rfl
  rw [e, e2]
  exact ⟨rfl, List.getElem_mem hl⟩
section
variable {P : Program} {w : World} {K : PySem.W.Frag} {mg : Str → Option Value}
structure Sb where
  x : Pc
  zss : List (List Nat)
  fs : List Nat
  hz : zss.length = x.rs.length
  h0 : ∀ z ∈ zss, 0 ∈ z ∧ (∀ a ∈ z, a ≤ 13) ∧ z.length ≤ 50000
  flt : ∀ f ∈ fs, f < x.rs.length
  fnd : fs.Nodup
/-- the cut is within the lists -/
structure CutIn (zss : List (List Nat)) (cut : List Nat) : Prop where
  len : cut.length = zss.length
  mem : ∀ h z, zss[h]? = some z → cut.getD h 0 ∈ z
theorem CutIn.lasts {zss : List (List Nat)} (h : ∀ z ∈ zss, 0 ∈ z) : CutIn zss (K89.lasts zss) := ⟨by unfold K89.lasts; simp, fun k z hz => by
  unfold K89.lasts
  rw [List.getD_eq_getElem?_getD, List.getElem?_map, hz]
  exact (last_mem (h z (List.mem_of_getElem? hz))).2⟩
theorem CutIn.set {zss : List (List Nat)} {cut : List Nat} (c : CutIn zss cut) {h a : Nat} {z : List Nat} (hz : zss[h]? = some z) (ha : a ∈ z) : CutIn zss (cut.set h a) := ⟨by rw [List.length_set]; exact c.len, fun k y hy => by
  have hk := (List.getElem?_eq_some_iff.mp hy).1
  rw [List.getD_eq_getElem?_getD, List.getElem?_set]
  by_cases e : h = k
  · subst e
    rw [if_pos rfl, if_pos (by rw [c.len]; exact hk)]
    rw [hz] at hy
    cases hy
    exact ha
  · rw [if_neg e, ← List.getD_eq_getElem?_getD]
    exact c.mem k y hy⟩
theorem Car.lt {rs : List Row} {c : Cr} (h : Car rs c) : c.2.1.1 < rs.length ∧ c.2.2.1 < rs.length := by
  have f : ∀ {b h p l}, letAt b rs h p = some l → h < rs.length := fun {b h p l} q => by
    unfold letAt at q
    cases z : evAt rs h p with
    | none => rw [z] at q; cases q
    | some e => exact (evAt_lt z).1
  exact ⟨f h.1, f h.2⟩
theorem f_steps_back (T : En K mg) : Cal P w K mg "steps_back" 6 ["picture", "lists", "fallen"] (spT (fun y : Sb => [y.x.t K, tL (y.zss.map fun z => tL (z.map tn)), tL (y.fs.map tn)]) (fun y => tEx (fun fd : List (Nat × Nat) => CutIn y.zss (appMin (lasts y.zss) fd) ∧ Closed y.x.rs (appMin (lasts y.zss) fd) ∧ (∀ z ∈ fd, z.1 < y.x.rs.length) ∧ fd.length ≤ 100) fun fd => tL (fd.map tFd))) := by
  have S : FnScope ["picture", "lists", "fallen", "found", "cut", "is_open", "letter", "said", "heard", "house", "states"] ["picture", "lists", "fallen"] d_steps_back.scope := ⟨rfl, rfl, rfl, by decide +kernel, rfl, by decide +kernel, by decide +kernel⟩
  refine Cal.mk' (n := 8) T 31 25 rfl rfl rfl rfl rfl S rfl (fun _ => rfl) (fun _ _ _ _ _ _ us hl => match us, hl with | [_, _, _], _ => rfl) fun base cdv A outer s H EX hr => ⟨_, (pss_cons (ps_setLc (i := 3) (own := [("house", 9)]) rfl S.nd rfl rfl (sw_true rfl rfl rfl (by decide +kernel)) (pi_list (pe_callB cr_sortedI rfl T.sorted bo_sorted (pa_cons (pv 2) pa_nil))) (blkOk_by (own := [("house", 9)]) (N := ["picture", "lists", "fallen", "found", "cut", "is_open", "letter", "said", "heard", "house", "states"]) (sc := d_steps_back.scope) (by decide +kernel)) (fun _ _ _ _ _ => (pg_name (i := 9) S.nd rfl (Or.inl rfl))) (fun _ _ _ _ _ => pts_nil) (fun _ _ _ _ _ => (pe_tup (pa_cons (pv 9) (pa_cons (pe_ix (ix_listK (K := K) rfl) (pe_ix (ix_listK (K := K) rfl) (pv 1) (pv 9) (fun _ _ => rfl)) (pe_un un_neg pe_int) (fun _ _ => rfl)) (pa_cons pe_non pa_nil))))))
      (pss_cons (ps_par (i := 4) (j := 5) rfl S.nd rfl rfl (by decide) rfl rfl (pa_cons (pe_lc (own := [("states", 10)]) rfl S.nd (pi_list (pv 1)) (blkOk_by (own := [("states", 10)]) (N := ["picture", "lists", "fallen", "found", "cut", "is_open", "letter", "said", "heard", "house", "states"]) (sc := d_steps_back.scope) (by decide +kernel)) (fun _ _ _ _ _ => (pg_name (i := 10) S.nd rfl (Or.inl rfl))) (fun _ _ _ _ _ => pts_nil) (fun _ _ _ _ _ => (pe_ix (ix_listK (K := K) rfl) (pv 10) (pe_un un_neg pe_int) (fun _ _ => rfl)))) (pa_cons pe_bl pa_nil)) rfl)
      (pss_cons (ps_while PassesOwn.never (pt_val (pv 5)) (pss_cons (ps_set (i := 5) S.nd rfl (Or.inl rfl) pe_bl)
      (pss_one (ps_for PassesOwn.never rfl (pi_items (pe_f (f_carried T) hr rfl (pa_cons (pv 0) pa_nil))) (pg_tup rfl (pgs_cons (pg_name (i := 6) S.nd rfl (Or.inl rfl)) (pgs_cons (pg_tup rfl (pgs_cons (pg_name (i := 7) S.nd rfl (Or.inl rfl)) (pgs_cons (pg_name (i := 8) S.nd rfl (Or.inl rfl)) pgs_nil))) pgs_nil))) (pss_one (ps_if (PW.pt (pw_and (pt_cmpR op_lt (pe_ix ix_tup (pv 8) pe_int (fun _ _ => rfl)) (pe_ix ix_list (pv 4) (pe_ix ix_tup (pv 8) pe_int (fun _ _ => rfl)) (fun _ _ => rfl)) (nomark _)) (pw_and1 (pt_cmpR op_ge (pe_ix ix_tup (pv 7) pe_int (fun _ _ => rfl)) (pe_ix ix_list (pv 4) (pe_ix ix_tup (pv 7) pe_int (fun _ _ => rfl)) (fun _ _ => rfl)) (nomark _))))) (pss_cons (ps_asg (pe_f (f_greatest_until T) (hr.mono (by decide)) rfl (pa_cons (pe_ix ix_list (pv 1) (pe_ix ix_tup (pv 8) pe_int (fun _ _ => rfl)) (fun _ _ => rfl)) (pa_cons (pe_ix ix_tup (pv 8) pe_int (fun _ _ => rfl)) pa_nil))) (pg_sub (pv 4) (pe_ix ix_tup (pv 8) pe_int (fun _ _ => rfl)) set_list))
      (pss_cons (ps_expr (pe_bm PySem.F.plainAttrs_list PySem.F.slot_list_append PySem.F.type_list_append mt_append (pv 3) (pa_cons (pe_tup (pa_cons (pe_ix ix_tup (pv 8) pe_int (fun _ _ => rfl)) (pa_cons (pe_ix ix_list (pv 4) (pe_ix ix_tup (pv 8) pe_int (fun _ _ => rfl)) (fun _ _ => rfl)) (pa_cons (pv 6) pa_nil)))) pa_nil)))
      (pss_one (ps_set (i := 5) S.nd rfl (Or.inl rfl) pe_bl)))) pss_nil))))))
      (pss_one (ps_ret (pv 3)))))), ?_⟩
  rintro ⟨x, zss, fs, hz, h0, flt, fnd⟩ F B Q q
  have n4 := x.R.n4
  have fl : fs.length ≤ 4 := by have := nodup_len x.rs.length fnd flt; omega
  have zl {h : Nat} (hh : h < x.rs.length) : ∃ z, zss[h]? = some z ∧ 0 ∈ z ∧ (∀ a ∈ z, a ≤ 13) ∧ z.length ≤ 50000 := by
    have e : zss[h]? = some zss[h] := List.getElem?_eq_getElem (by omega)
    exact ⟨_, e, h0 _ (List.mem_of_getElem? e)⟩
  have cin := CutIn.lasts fun z hz => (h0 z hz).1
  have s13 : ∀ {cut : List Nat}, CutIn zss cut → cut.sum ≤ 52 := fun {cut} c => by
    have := sum_le_mul (xs := cut) fun a ha => by
      obtain ⟨i, hi⟩ := List.getElem?_of_mem ha
      have hl := (List.getElem?_eq_some_iff.mp hi).1
      obtain ⟨z, z1, _, z3, _⟩ := zl (h := i) (by rw [← hz, ← c.len]; exact hl)
      have := c.mem i z z1
      rw [List.getD_eq_getElem?_getD, hi] at this
      exact z3 _ this
    rw [c.len, hz] at this
    omega
  have eLast {Γ : Gam} {M : List Mut1} {te : TE} {z : List Nat} (hz0 : 0 ∈ z) (h : K89.E te Γ M (tL (z.map tn))) : K89.E (tOp (rIxL K) te (tUn (rU fun i => .int (-i)) (tC (.int 1)))) Γ M (tn (z.getLastD 0)) :=
    e_ixL h (e_neg e_c) (atI_neg1 (by rw [List.getLast?_map, (last_mem hz0).1] <;> rfl))
  refine n_seq (n_asgN (m := mEx (fun ms : List Nat => ms.Perm fs ∧ ms.Pairwise (· ≤ ·)) fun ms => mL (ms.map fun h => tFd (h, (lasts zss).getD h 0))) (en_mapX (srcx_list (EN.lx (en_bi1 (e_var rfl) bin_sorted))) (fun ms hm => ?_) fun ms hm h hmem => ⟨_, tc_name (by decide), ?_⟩) fun fp => ?_)
  · rw [hm.1.length_eq]
    omega
  · have hh := flt h (hm.1.mem_iff.mp hmem)
    obtain ⟨z, z1, z2, _, _⟩ := zl hh
    have e : (lasts zss).getD h 0 = z.getLastD 0 := by
      unfold lasts
      rw [List.getD_eq_getElem?_getD, List.getElem?_map, z1] <;> rfl
    rw [e]
    exact e_tup3 (e_var rfl) (eLast z2 (e_ixL (e_var rfl) (e_var rfl) (atI_n (by rw [List.getElem?_map, z1] <;> rfl)))) (e_c.imp fun _ _ _ => trivial)
  refine n_exM (j := 0) rfl fun ms hm => ?_
  have hm1 : ms.Perm fs := hm.1
  refine n_seq (n_par1 (m1 := mL ((lasts zss).map tn)) ((en_map (xs := zss) (f := fun z => tL (z.map tn)) (u := fun z => tn (z.getLastD 0)) (src_list (e_var rfl)) (by omega) fun z hmem => ⟨_, tc_name (by decide), eLast (h0 z hmem).1 (e_var rfl)⟩).imp fun o G h => ?_) e_c fun cp => ?_)
  · unfold lasts
    rw [List.map_map]
    exact h
  have start : appMin (lasts zss) (ms.map fun h => (h, (lasts zss).getD h 0)) = lasts zss := appMin_same
  refine n_seq (n_while (α := List (Nat × Nat) × Bool) (fun n y => n = 2 * (appMin (lasts zss) y.1).sum + y.2.toNat ∧ CutIn zss (appMin (lasts zss) y.1) ∧ (∀ z ∈ y.1, z.1 < x.rs.length) ∧ y.1.length + (appMin (lasts zss) y.1).sum ≤ 100 ∧ (y.2 = false → Closed x.rs (appMin (lasts zss) y.1)))
    (fun y => [some (x.t K), some (tL (zss.map fun z => tL (z.map tn))), some (tL (fs.map tn)), some (tR fp), some (tR cp), some (tB y.2), none, none, none, none, none]) (fun y => [(cp, mL ((appMin (lasts zss) y.1).map tn)), (fp, mL (y.1.map tFd))]) _ (ms.map fun h => (h, (lasts zss).getD h 0), true) ⟨rfl, by rw [start]; exact cin, fun z hz => ?_, ?_, fun z => nomatch z⟩ rfl ?_ fun n y hy => ?_)
  · obtain ⟨h, h1, rfl⟩ := List.mem_map.mp hz
    exact flt h (hm1.mem_iff.mp h1)
  · rw [start, List.length_map, hm1.length_eq]
    have := s13 cin
    omega
  · show [(cp, _), (fp, _)] = [(cp, mL ((appMin (lasts zss) (ms.map fun h => (h, (lasts zss).getD h 0))).map tn)), (fp, mL ((ms.map fun h => (h, (lasts zss).getD h 0)).map tFd))]
    rw [start, List.map_map]
    rfl
  · obtain ⟨fd, op⟩ := y
    dsimp only at hy
    obtain ⟨en, hc, hlt, hsz, hcl⟩ := hy
    refine ⟨fun c => c = op, et_B (e_var rfl), fun z => ?_, fun z => ?_⟩
    · have z' : op = true := z.symm
      subst z'
      refine n_seq (n_asg e_c ?_)
      refine n_forX (α := List (Nat × Nat) × Bool) (srcx_items (e_f x (ea_cons (e_var rfl) ea_nil))) (fun cs i y => CutIn zss (appMin (lasts zss) y.1) ∧ (∀ z ∈ y.1, z.1 < x.rs.length) ∧ y.1.length + (appMin (lasts zss) y.1).sum ≤ 100 ∧ (y.2 = false → appMin (lasts zss) y.1 = appMin (lasts zss) fd ∧ ∀ j c, j < i → cs[j]? = some c → ClosedAt (appMin (lasts zss) fd) c) ∧ (y.2 = true → (appMin (lasts zss) y.1).sum < (appMin (lasts zss) fd).sum))
        (fun _ y => [some (x.t K), some (tL (zss.map fun z => tL (z.map tn))), some (tL (fs.map tn)), some (tR fp), some (tR cp), some (tB y.2), none, none, none, none, none]) (fun _ y => [(cp, mL ((appMin (lasts zss) y.1).map tn)), (fp, mL (y.1.map tFd))]) (fun _ => (fd, false)) (fun cs hcs => ⟨hc, hlt, hsz, fun _ => ⟨rfl, fun j c hj => absurd hj (Nat.not_lt_zero _)⟩, fun z => nomatch z⟩) (fun _ => rfl) (fun _ => rfl) (fun cs hcs B' eB i t y ht hy => ?_) fun cs hcs y hy => ?_
      · obtain ⟨fd2, op2⟩ := y
        dsimp only at hy
        obtain ⟨k1, k2, k3, k4, k5⟩ := hy
        rw [List.map_map, List.getElem?_map] at ht
        cases ec : cs[i]? with
        | none => rw [ec] at ht; cases ht
        | some c =>
        rw [ec] at ht
        have ht' := Option.some.inj ht
        subst ht'
        have car := (hcs.mem c).mp (List.mem_of_getElem? ec)
        obtain ⟨l, ⟨a, b⟩, ⟨d, e⟩⟩ := c
        have la : a < x.rs.length := car.lt.1
        have ld : d < x.rs.length := car.lt.2
        have cl := k1.len
        have ga := getD_at (xs := appMin (lasts zss) fd2) (i := a) (by omega)
        have gd := getD_at (xs := appMin (lasts zss) fd2) (i := d) (by omega)
        obtain ⟨z, z1, z2, z3, z4⟩ := zl ld
        refine tg_12 ?_
        have rd {Γ : Gam} {M : List Mut1} {te : TE} {h v : Nat} (h4 : Γ[4]? = some (some (tR cp))) (hm : M[0]? = some (cp, mL ((appMin (lasts zss) fd2).map tn))) (hv : (appMin (lasts zss) fd2)[h]? = some v) (ht : K89.E te (Γ.set 4 (some (tL ((appMin (lasts zss) fd2).map tn)))) [] (tn h)) : K89.E (tOp (rIxL K) (tVar 4) te) Γ M (tn v) :=
          E.focusL (i := 4) (j := 0) h4 hm (e_ixL (e_var (List.getElem?_set_self (List.getElem?_eq_some_iff.mp h4).1)) ht (map_at hv)) flat_V
        have tst := et_and (Γ := [some (x.t K), some (tL (zss.map fun z => tL (z.map tn))), some (tL (fs.map tn)), some (tR fp), some (tR cp), some (tB op2), some (tn l), some (tPr (a, b)), some (tPr (d, e)), none, none]) (M := [(cp, mL ((appMin (lasts zss) fd2).map tn)), (fp, mL (fd2.map tFd))])
          (et_test (e_op0 (f := fun i j => .bl (decide (i < j))) (e_ixT (K := K) (i := 1) (e_var (i := 8) rfl) e_c rfl) (rd rfl rfl gd (e_ixT (K := K) (i := 0) (e_var (i := 8) rfl) e_c rfl))))
          fun _ => et_test (e_op0 (f := fun i j => .bl (decide (i ≥ j))) (e_ixT (K := K) (i := 1) (e_var (i := 7) rfl) e_c rfl) (rd rfl rfl ga (e_ixT (K := K) (i := 0) (e_var (i := 7) rfl) e_c rfl)))
        refine n_if tst (fun hb => ?_) fun hb => ?_
        · obtain ⟨b1, b2⟩ := Bool.and_eq_true_iff.mp hb.symm
          have c1 := of_decide_eq_true b1
          have c2 := of_decide_eq_true b2
          refine n_seq (n_setLX (j := 0) (i := d) rfl (e_f ⟨(z, e), z4, 0, z2, Nat.zero_le _⟩ (ea_cons (e_ixL (e_var rfl) (e_ixT (e_var rfl) e_c rfl) (atI_n (by rw [List.getElem?_map, z1] <;> rfl))) (ea_cons (e_ixT (e_var rfl) e_c rfl) ea_nil))) (e_var rfl) (e_ixT (e_var rfl) e_c rfl) (by show d < ((appMin (lasts zss) fd2).map tn).length; rw [List.length_map]; omega) fun g hg => ?_)
          obtain ⟨g1, g2⟩ : g ∈ z ∧ g ≤ e := hg
          have lt : g < (appMin (lasts zss) fd2).getD d 0 := by omega
          have en2 : appMin (lasts zss) (fd2 ++ [(d, g)]) = (appMin (lasts zss) fd2).set d g := by
            rw [appMin_snoc]
            show List.set _ d (min ((appMin (lasts zss) fd2).getD d 0) g) = _
            rw [Nat.min_eq_right (by omega)]
          have sl := sum_set_lt (xs := appMin (lasts zss) fd2) (i := d) (x := g) (by omega) lt
          have s2 : ((appMin (lasts zss) fd2).map tn).set d (tn g) = ((appMin (lasts zss) fd2).set d g).map tn := by rw [List.map_set]
          have gs : ((appMin (lasts zss) fd2).set d g)[d]? = some g := List.getElem?_set_self (by omega)
          refine n_seq (n_app (j := 1) (t := tFd (d, g)) rfl (e_var rfl) (e_tup3 (e_ixT (e_var rfl) e_c rfl) (E.focusL (i := 4) (j := 0) rfl rfl (e_ixL (e_var rfl) (e_ixT (e_var rfl) e_c rfl) (by rw [s2]; exact map_at gs)) flat_V) ((e_var rfl).imp fun _ _ _ => trivial)) (by show (fd2.map tFd).length < 100000; rw [List.length_map]; omega) ?_)
          refine n_asg e_c (n_fg [6, 7, 8] (li (fd2 ++ [(d, g)], true) ⟨?_, fun y hy => ?_, ?_, (fun y => nomatch y), fun _ => ?_⟩ rfl ?_))
          · rw [en2]
            exact k1.set z1 g1
          · rcases List.mem_append.mp hy with hy | hy
            · exact k2 y hy
            · rw [List.mem_singleton.mp hy]
              exact ld
          · rw [en2, List.length_append, List.length_singleton]
            omega
          · rw [en2]
            cases op2 with
            | true =>
              have := k5 rfl
              omega
            | false =>
              rw [← (k4 rfl).1]
              exact sl
          · show [(cp, _), (fp, _)] = [(cp, mL ((appMin (lasts zss) (fd2 ++ [(d, g)])).map tn)), (fp, mL ((fd2 ++ [(d, g)]).map tFd))]
            rw [en2, ← s2, List.map_append]
            rfl
        · refine n_next (n_fg [6, 7, 8] (li (fd2, op2) ⟨k1, k2, k3, fun e2 => ⟨(k4 e2).1, fun j c hj hc => ?_⟩, k5⟩ rfl rfl))
          by_cases ej : j = i
          · subst ej
            rw [ec] at hc
            cases hc
            rw [← (k4 e2).1]
            intro h1
            have h1' : (appMin (lasts zss) fd2).getD a 0 ≤ b := h1
            show (appMin (lasts zss) fd2).getD d 0 ≤ e
            by_cases lt : (appMin (lasts zss) fd2).getD d 0 ≤ e
            · exact lt
            · have t1 : decide ((e : Int) < ((appMin (lasts zss) fd2).getD d 0 : Int)) = true := decide_eq_true (by omega)
              have t2 : decide ((b : Int) ≥ ((appMin (lasts zss) fd2).getD a 0 : Int)) = true := decide_eq_true (by omega)
              have hb' : false = (decide ((e : Int) < ((appMin (lasts zss) fd2).getD d 0 : Int)) && decide ((b : Int) ≥ ((appMin (lasts zss) fd2).getD a 0 : Int))) := hb
              rw [t1, t2] at hb'
              cases hb'
          · exact (k4 e2).2 j c (by omega) hc
      · obtain ⟨fd2, op2⟩ := y
        dsimp only at hy
        obtain ⟨k1, k2, k3, k4, k5⟩ := hy
        rw [List.map_map, List.length_map] at k4
        refine lw (2 * (appMin (lasts zss) fd2).sum + op2.toNat) (fd2, op2) ?_ ⟨rfl, k1, k2, k3, fun e2 c hc => ?_⟩ rfl rfl
        · rw [en]
          cases op2 with
          | true =>
            have := k5 rfl
            show 2 * _ + 1 < 2 * _ + 1
            omega
          | false =>
            rw [(k4 rfl).1]
            show 2 * _ + 0 < 2 * _ + 1
            omega
        · have e3 : appMin (lasts zss) fd2 = appMin (lasts zss) fd := (k4 e2).1
          rw [e3]
          obtain ⟨j, hj⟩ := List.getElem?_of_mem ((hcs.mem c).mpr hc)
          exact (k4 e2).2 j c (List.getElem?_eq_some_iff.mp hj).1 hj
    · have z' : op = false := z.symm
      subst z'
      refine n_frz (i := 3) (j := 1) rfl rfl (n_ret (e_var rfl) fun v H G z1 z2 z3 z4 => q v H G z1 z2 z3 ⟨fd, ⟨hc, hcl rfl, hlt, by omega⟩, z4⟩)
end
end K89
set_option Elab.async false
set_option linter.all false
set_option maxRecDepth 100000
set_option maxHeartbeats 4000000
/-! K89W10: the cut, the undone, what is to be written. -/
namespace K89
open PySem PySem.Spec PyProof.Rows L2
section
variable {F B : Hp} {Γ : Gam} {M : List Mut1} {ta te : TE} {ts : List Ty} {K : PySem.W.Frag} {p : Addr} {nx bk ct : L2.St → Hp → Prop} {rt : VK} {β : Type} {φ : β → Prop} {f : β → List Ty}
/-- xs.extend(ys), ys known by a property -/
theorem n_extX {j : Nat} (hj : M[j]? = some (p, mL ts)) (ha : K89.E ta Γ M (tR p)) (h : K89.E te Γ M (tEx φ fun y => tL (f y))) (hz : ∀ y, φ y → ts.length + (f y).length ≤ 100000) (k : ∀ y, φ y → N nx F B Γ (M.set j (p, mL (ts ++ f y)))) :
    N (tDrop (tBM K "list" rExtend ta (tCons te tNil)) ⟨nx, rt, bk, ct⟩) F B Γ M := fun σ H G s g => ha F B σ H G s g _ fun v1 H1 G1 s1 e1 a1 => by
  have a1' : v1 = .ref p := a1
  subst a1'
  obtain ⟨_, _, o, h3, vs, h4, h5⟩ := s1.mm p _ (List.mem_of_getElem? hj)
  subst h4
  refine ⟨Or.inl ⟨rfl, vs, SqL.of h3⟩, h F B σ H1 G1 s1 (g.mono e1) _ fun v2 H2 G2 s2 e2 a2 => ?_⟩
  obtain ⟨_, _, o, k3, ws, k4, k5⟩ := s2.mm p _ (List.mem_of_getElem? hj)
  subst k4
  obtain ⟨y, hy, b, zs, rfl, eb, az⟩ := a2
  refine ⟨p, b, ws, zs, rfl, rfl, k3, s2.er b _ eb, sz5 (by rw [k5.length, az.length]; exact hz y hy), ?_⟩
  exact k y hy _ _ G2 (s2.put hj ⟨_, rfl, k5.append az⟩) ((g.mono e1).mono e2)
end
section
variable {P : Program} {w : World} {K : PySem.W.Frag} {mg : Str → Option Value}
def CutP (y : Aq) (cut : List Nat) : Prop := ∃ zss : List (List Nat), zss.length = y.x.rs.length ∧ (∀ h z, h < y.x.rs.length → zss[h]? = some z → LeftP y.x.rs (y.k.ke.getD h []) y.fs y.ws h z) ∧ CutIn zss cut ∧ Closed y.x.rs cut
theorem f_cut_left (T : En K mg) : Cal P w K mg "cut_left" 7 ["picture", "kept", "fallen", "written"] (spT (fun y : Aq => y.as K) (fun y => tEx (CutP y) fun cut => tT (cut.map tn))) := by
  have S : FnScope ["picture", "kept", "fallen", "written", "lists", "found", "house", "state", "letter", "states"] ["picture", "kept", "fallen", "written"] d_cut_left.scope := ⟨rfl, rfl, rfl, by decide +kernel, rfl, by decide +kernel, by decide +kernel⟩
  refine Cal.mk' (n := 6) T 32 26 rfl rfl rfl rfl rfl S rfl (fun _ => rfl) (fun _ _ _ _ _ _ us hl => match us, hl with | [_, _, _, _], _ => rfl) fun base cdv A outer s H EX hr => ⟨_, (pss_cons (ps_set (i := 4) S.nd rfl (Or.inl rfl) (pe_f (f_all_left T) (hr.mono (by decide)) rfl (pa_cons (pv 0) (pa_cons (pv 1) (pa_cons (pv 2) (pa_cons (pv 3) pa_nil))))))
      (pss_cons (ps_setLc (i := 5) (own := [("states", 9)]) rfl S.nd rfl rfl (sw_true rfl rfl rfl (by decide +kernel)) (pi_list (pv 4)) (blkOk_by (own := [("states", 9)]) (N := ["picture", "kept", "fallen", "written", "lists", "found", "house", "state", "letter", "states"]) (sc := d_cut_left.scope) (by decide +kernel)) (fun _ _ _ _ _ => (pg_name (i := 9) S.nd rfl (Or.inl rfl))) (fun _ _ _ _ _ => pts_nil) (fun _ _ _ _ _ => (pe_ix (ix_listK (K := K) rfl) (pv 9) (pe_un un_neg pe_int) (fun _ _ => rfl))))
      (pss_cons (ps_for PassesOwn.never rfl (pi_list (pe_f (f_steps_back T) hr rfl (pa_cons (pv 0) (pa_cons (pv 4) (pa_cons (pv 2) pa_nil))))) (pg_tup rfl (pgs_cons (pg_name (i := 6) S.nd rfl (Or.inl rfl)) (pgs_cons (pg_name (i := 7) S.nd rfl (Or.inl rfl)) (pgs_cons (pg_name (i := 8) S.nd rfl (Or.inl rfl)) pgs_nil)))) (pss_one (ps_asg (pe_callB (call_mn2 rfl) rfl T.min bo_min (pa_cons (pe_ix ix_list (pv 5) (pv 6) (fun _ _ => rfl)) (pa_cons (pv 7) pa_nil))) (pg_sub (pv 5) (pv 6) set_list))))
      (pss_one (ps_ret (pe_callTy call_tOf rfl T.tuple bo_tuple (pa_cons (pv 5) pa_nil))))))), ?_⟩
  rintro y F B Q q
  have n4 := y.x.R.n4
  refine n_seq (n_asg (e_f y (ea_cons (e_var rfl) (ea_cons (e_var rfl) (ea_cons (e_var rfl) (ea_cons (e_var rfl) ea_nil))))) ?_)
  refine n_ex (i := 4) rfl fun zss hz => ?_
  obtain ⟨hz1, hz2⟩ := hz
  have h0 : ∀ z ∈ zss, 0 ∈ z ∧ (∀ a ∈ z, a ≤ 13) ∧ z.length ≤ 50000 := fun z hm => by
    obtain ⟨h, hh⟩ := List.getElem?_of_mem hm
    have hl := (List.getElem?_eq_some_iff.mp hh).1
    have p := hz2 h z (by omega) hh
    exact ⟨p.zero, fun a ha => Nat.le_trans (p.re a ha).1 (sz13 y.x h), by have := p.len; omega⟩
  refine n_seq (n_asgN (m := mL ((lasts zss).map tn)) ((en_map (xs := zss) (f := fun z => tL (z.map tn)) (u := fun z => tn (z.getLastD 0)) (src_list (e_var rfl)) (by omega) fun z hm => ⟨_, tc_name (by decide), e_ixL (e_var rfl) (e_neg e_c) (atI_neg1 (by rw [List.getLast?_map, (last_mem (h0 z hm).1).1] <;> rfl))⟩).imp fun o G h => ?_) fun fp => ?_)
  · unfold lasts
    rw [List.map_map]
    exact h
  have base : [some (y.x.t K), some y.k.t, some (tL (y.fs.map tn)), some (tSq y.tup (y.ws.map tn)), some (tL (zss.map fun z => tL (z.map tn))), some (tR fp), none, none, none, none] = ([some (y.x.t K), some y.k.t, some (tL (y.fs.map tn)), some (tSq y.tup (y.ws.map tn)), some (tL (zss.map fun z => tL (z.map tn))), some (tR fp), none, none, none, none] : Gam) := rfl
  refine n_seq (n_forX (α := List Nat) (srcx_list (e_f ⟨y.x, zss, y.fs, hz1, h0, y.flt, y.fnd⟩ (ea_cons (e_var rfl) (ea_cons (e_var rfl) (ea_cons (e_var rfl) ea_nil))))) (fun (fd : List (Nat × Nat)) i cut => cut = appMin (lasts zss) (fd.take i)) (fun _ _ => [some (y.x.t K), some y.k.t, some (tL (y.fs.map tn)), some (tSq y.tup (y.ws.map tn)), some (tL (zss.map fun z => tL (z.map tn))), some (tR fp), none, none, none, none]) (fun _ cut => [(fp, mL (cut.map tn))]) (fun _ => lasts zss) (fun _ _ => rfl) (fun _ => rfl) (fun _ => rfl) (fun fd hfd B' eB i t cut ht hc => ?_) fun fd hfd cut hc => ?_)
  · rw [List.getElem?_map] at ht
    cases ez : fd[i]? with
    | none => rw [ez] at ht; cases ht
    | some z =>
    obtain ⟨h, s⟩ := z
    rw [ez] at ht
    have ht' := Option.some.inj ht
    subst ht'
    have hh : h < y.x.rs.length := hfd.2.2.1 _ (List.mem_of_getElem? ez)
    have hl : cut.length = y.x.rs.length := by
      rw [hc, appMin_len]
      unfold lasts
      rw [List.length_map, hz1]
    have gc := getD_at (xs := cut) (i := h) (by omega)
    have et : fd.take (i + 1) = fd.take i ++ [(h, s)] := by rw [List.take_succ, ez] <;> rfl
    refine tg_3 (n_setL (j := 0) (i := h) (t := tn (min (cut.getD h 0) s)) rfl ((e_bi2 (E.focusL (i := 5) (j := 0) rfl rfl (e_ixL (e_var rfl) (e_var rfl) (map_at gc)) flat_V) (e_var rfl) bi_min2).to ?_) (e_var rfl) (e_var rfl) (by rw [List.length_map]; omega) ?_)
    · show tI (if (s : Int) < (cut.getD h 0 : Int) then (s : Int) else (cut.getD h 0 : Int)) = tI ((min (cut.getD h 0) s : Nat) : Int)
      congr 2
      by_cases z : (s : Int) < (cut.getD h 0 : Int)
      · rw [if_pos z, Nat.min_eq_right (by omega)]
      · rw [if_neg z, Nat.min_eq_left (by omega)]
    · refine n_fg [6, 7, 8] (li (cut.set h (min (cut.getD h 0) s)) ?_ rfl ?_)
      · rw [et, appMin_snoc, ← hc]
      · rw [List.map_set]
        rfl
  · rw [List.length_map, List.take_length] at hc
    refine n_ret (e_tupleM (j := 0) (e_var rfl) (List.mem_cons_self ..)) fun v H G z1 z2 z3 z4 => q v H G z1 z2 z3 ⟨cut, ⟨zss, hz1, hz2, ?_, ?_⟩, z4⟩
    · rw [hc]
      exact hfd.1
    · rw [hc]
      exact hfd.2.1
theorem f_remaining (T : En K mg) : Cal P w K mg "remaining" 8 ["picture", "kept", "fallen", "written"] (spT (fun y : Aq => y.as K) (fun y => tEx (CutP y) fun cut => tT (cut.map tn))) := by
  have S : FnScope ["picture", "kept", "fallen", "written"] ["picture", "kept", "fallen", "written"] d_remaining.scope := ⟨rfl, rfl, rfl, by decide +kernel, rfl, by decide +kernel, by decide +kernel⟩
  refine Cal.mkD' (n := 0) T 33 27 rfl rfl rfl rfl rfl S rfl (fun _ => rfl) (fun _ _ _ _ _ _ _ us its h1 h2 => match us, its, h1, h2 with | [_, _, _, _], [_], _, _ => ⟨_, rfl, rfl⟩) fun base cdv A outer s H EX hr => ⟨_, (pss_cons (ps_expr (pe_f (f_want_all T) hr rfl (pa_cons (pv 0) (pa_cons (pv 1) (pa_cons (pv 2) (pa_cons (pv 3) pa_nil))))))
      (pss_one (ps_ret (pe_f (f_cut_left T) hr rfl (pa_cons (pv 0) (pa_cons (pv 1) (pa_cons (pv 2) (pa_cons (pv 3) pa_nil)))))))), ?_⟩
  rintro y F B Q q
  refine n_seq (n_drop (e_f y (ea_cons (e_var rfl) (ea_cons (e_var rfl) (ea_cons (e_var rfl) (ea_cons (e_var rfl) ea_nil))))) ?_)
  exact n_ret (e_f y (ea_cons (e_var rfl) (ea_cons (e_var rfl) (ea_cons (e_var rfl) (ea_cons (e_var rfl) ea_nil))))) q
def UndP (y : Aq) (us : List (Nat × Nat)) : Prop := ∃ cut, CutP y cut ∧ ∀ h, h < y.x.rs.length → cut.getD h 0 < sz y.x.rs h → (h, cut.getD h 0) ∈ us
theorem f_undone (T : En K mg) : Cal P w K mg "undone" 9 ["picture", "kept", "fallen", "written"] (spT (fun y : Aq => y.as K) (fun y => tEx (fun us => UndP y us ∧ us.length ≤ 1000) fun us => tL (us.map tPr))) := by
  have S : FnScope ["picture", "kept", "fallen", "written", "cut", "found", "house", "place"] ["picture", "kept", "fallen", "written"] d_undone.scope := ⟨rfl, rfl, rfl, by decide +kernel, rfl, by decide +kernel, by decide +kernel⟩
  refine Cal.mkD' (n := 4) T 34 28 rfl rfl rfl rfl rfl S rfl (fun _ => rfl) (fun _ _ _ _ _ _ _ us its h1 h2 => match us, its, h1, h2 with | [_, _, _, _], [_], _, _ => ⟨_, rfl, rfl⟩) fun base cdv A outer s H EX hr => ⟨_, (pss_cons (ps_par (i := 4) (j := 5) rfl S.nd rfl rfl (by decide) rfl rfl (pa_cons (pe_f (f_remaining T) hr rfl (pa_cons (pv 0) (pa_cons (pv 1) (pa_cons (pv 2) (pa_cons (pv 3) pa_nil))))) (pa_cons (pe_lst pa_nil) pa_nil)) rfl)
      (pss_cons (ps_for PassesOwn.never rfl (pi_range1 rfl T.range (pa_cons (pe_g T.cls (g_houses T) (hr.mono (by decide)) (pv 0) rfl) pa_nil)) (pg_name (i := 6) S.nd rfl (Or.inr rfl)) (pss_one (ps_expr (pe_bm PySem.F.plainAttrs_list PySem.F.slot_list_extend PySem.F.type_list_extend mt_extend (pv 5) (pa_cons (pe_lc (own := [("place", 7)]) rfl S.nd (pi_range2 rfl T.range (pa_cons (pe_ix ix_tup (pv 4) (pv 6) (fun _ _ => rfl)) (pa_cons (pe_ix ix_tup (pe_fld (pv 0) rfl) (pv 6) (fun _ _ => rfl)) pa_nil))) (blkOk_by (own := [("place", 7)]) (N := ["picture", "kept", "fallen", "written", "cut", "found", "house", "place"]) (sc := d_undone.scope) (by decide +kernel)) (fun _ _ _ _ _ => (pg_name (i := 7) S.nd rfl (Or.inl rfl))) (fun _ _ _ _ _ => pts_nil) (fun _ _ _ _ _ => (pe_tup (pa_cons (pv 6) (pa_cons (pv 7) pa_nil))))) pa_nil)))))
      (pss_one (ps_ret (pv 5))))), ?_⟩
  rintro y F B Q q
  have n4 := y.x.R.n4
  refine n_seq (n_par2 (e_f y (ea_cons (e_var rfl) (ea_cons (e_var rfl) (ea_cons (e_var rfl) (ea_cons (e_var rfl) ea_nil))))) (en_lst ea_nil (by decide)) fun fp => ?_)
  refine n_ex (i := 4) rfl fun cut hcut => ?_
  obtain ⟨zss, hz1, hz2, hci, hcl⟩ := id hcut
  have hl : cut.length = y.x.rs.length := by rw [hci.len, hz1]
  have c13 : ∀ h, h < y.x.rs.length → cut.getD h 0 ≤ sz y.x.rs h := fun h hh => by
    have e : zss[h]? = some zss[h] := List.getElem?_eq_getElem (by omega)
    exact ((hz2 h _ hh e).re _ (hci.mem h _ e)).1
  refine n_seq (n_for (α := List (Nat × Nat)) (fun i us => us.length ≤ 20 * i ∧ ∀ h, h < i → cut.getD h 0 < sz y.x.rs h → (h, cut.getD h 0) ∈ us) (fun _ => [some (y.x.t K), some y.k.t, some (tL (y.fs.map tn)), some (tSq y.tup (y.ws.map tn)), some (tT (cut.map tn)), some (tR fp), none, none]) (fun us => [(fp, mL (us.map tPr))]) (src_range1 (ea_cons (e_p y.x (e_var rfl)) ea_nil) (by omega)) [] ⟨Nat.le_refl _, fun h z => absurd z (Nat.not_lt_zero _)⟩ rfl rfl (fun B' eB h t us ht hu => ?_) fun us hu => ?_)
  · have hh : h < y.x.rs.length := by
      have := (List.getElem?_eq_some_iff.mp ht).1
      simpa using this
    rw [range_at ht]
    have gc := getD_at (xs := cut) (i := h) (by omega)
    have s13 := sz13 y.x h
    refine tg_name (n_ext (j := 0) (us := (List.range (sz y.x.rs h - cut.getD h 0)).map fun i => tPr (h, cut.getD h 0 + i)) rfl (e_var rfl) (EN.l (en_map (xs := List.range (sz y.x.rs h - cut.getD h 0)) (f := fun i => tn (cut.getD h 0 + i)) (u := fun i => tPr (h, cut.getD h 0 + i)) (src_range2 (lo := cut.getD h 0) (n := sz y.x.rs h) (ea_cons (e_ixT (i := (h : Int)) (e_var rfl) (e_var rfl) (map_at gc)) (ea_cons (e_ixT (i := (h : Int)) (e_fld (e_var rfl) T.cls T.sizes y.x.ok.siz) (e_var rfl) (map_at (sizes_at hh))) ea_nil)) (by have := c13 h hh; omega) (by omega)) (by rw [List.length_range]; omega) fun i hi => ⟨_, tc_name (by decide), e_pr (e_var rfl) (e_var rfl)⟩)) ?_ ?_)
    · rw [List.length_map, List.length_map, List.length_range]
      have := hu.1
      omega
    · refine n_fg [6] (li (us ++ (List.range (sz y.x.rs h - cut.getD h 0)).map fun i => (h, cut.getD h 0 + i)) ⟨?_, fun k hk hlt => ?_⟩ rfl ?_)
      · rw [List.length_append, List.length_map, List.length_range]
        have := hu.1
        omega
      · rw [List.mem_append]
        by_cases e : k = h
        · subst e
          exact .inr (List.mem_map.mpr ⟨0, List.mem_range.mpr (by omega), rfl⟩)
        · exact .inl (hu.2 k (by omega) hlt)
      · rw [List.map_append, List.map_map]
        rfl
  · rw [List.length_map, List.length_range] at hu
    refine n_frz (i := 5) (j := 0) rfl rfl (n_ret (e_var rfl) fun v H G z1 z2 z3 z4 => q v H G z1 z2 z3 ⟨us, ⟨⟨cut, hcut, hu.2⟩, by omega⟩, z4⟩)
/-- due at house h -/
def DueH (rs : List Row) (ke : List Nat) (h l : Nat) : Prop := ∃ p, letAt false rs h p = some l ∧ (∀ s ∈ ke, s < sz rs h → s ≤ p) ∧ ∃ c, Car rs c ∧ c.2.1.1 = h ∧ p ≤ c.2.1.2
def Due {rs : List Row} (k : Ka rs) (l : Nat) : Prop := ∃ h, h < rs.length ∧ DueH rs (k.ke.getD h []) h l
structure Hq where
  x : Pc
  k : Ka x.rs
  h : Nat
  hh : h < x.rs.length
structure DueL (rs : List Row) (ke : List Nat) (h : Nat) (ls : List Nat) : Prop where
  mem : ∀ l, l ∈ ls ↔ DueH rs ke h l
  nd : ls.Nodup
  len : ls.length ≤ 13
theorem f_wanted_of (T : En K mg) : Cal P w K mg "wanted_of" 6 ["picture", "kept", "house"] (spT (fun y : Hq => [y.x.t K, y.k.t, tn y.h]) (fun y => tEx (DueL y.x.rs (y.k.ke.getD y.h []) y.h) fun ls => tL (ls.map tn))) := by
  have S : FnScope ["picture", "kept", "house", "letters", "size", "begin", "end", "found", "letter", "said", "heard", "state"] ["picture", "kept", "house"] d_wanted_of.scope := ⟨rfl, rfl, rfl, by decide +kernel, rfl, by decide +kernel, by decide +kernel⟩
  refine Cal.mk' (n := 9) T 35 29 rfl rfl rfl rfl rfl S rfl (fun _ => rfl) (fun _ _ _ _ _ _ us hl => match us, hl with | [_, _, _], _ => rfl) fun base cdv A outer s H EX hr => ⟨_, (pss_cons (ps_asg (pe_tup (pa_cons (pe_f (f_carried T) hr rfl (pa_cons (pv 0) pa_nil)) (pa_cons (pe_ix ix_tup (pe_fld (pv 0) rfl) (pv 2) (fun _ _ => rfl)) pa_nil))) (pg_tup rfl (pgs_cons (pg_name (i := 3) S.nd rfl (Or.inl rfl)) (pgs_cons (pg_name (i := 4) S.nd rfl (Or.inr rfl)) pgs_nil))))
      (pss_cons (ps_set (i := 5) S.nd rfl (Or.inl rfl) (pe_callB (cr_max rfl) rfl T.max bo_max (pa_cons (pe_lc (own := [("state", 11)]) rfl S.nd (pi_sq (pe_dget (hu_of hr) (pv 1) (pv 2) (fun _ _ => rfl))) (blkOk_by (own := [("state", 11)]) (N := ["picture", "kept", "house", "letters", "size", "begin", "end", "found", "letter", "said", "heard", "state"]) (sc := d_wanted_of.scope) (by decide +kernel)) (fun _ _ _ _ _ => (pg_name (i := 11) S.nd rfl (Or.inl rfl))) (fun _ _ _ _ _ => (pts_one (PW.pt (pw_or (pt_cmpR op_lt (pv 11) (pv 4) (nomark _)) (pw_or1 (pt_cmpR op_eq (pv 4) pe_int (nomark _))))))) (fun _ _ _ _ _ => (pv 11))) pa_nil)))
      (pss_cons (ps_set (i := 6) S.nd rfl (Or.inl rfl) (pe_callB (cr_max rfl) rfl T.max bo_max (pa_cons (pe_op op_cat (pe_lst (pa_cons pe_int pa_nil)) (pe_lc (own := [("said", 9), ("heard", 10)]) rfl S.nd (pi_values (pv 3)) (blkOk_by (own := [("said", 9), ("heard", 10)]) (N := ["picture", "kept", "house", "letters", "size", "begin", "end", "found", "letter", "said", "heard", "state"]) (sc := d_wanted_of.scope) (by decide +kernel)) (fun _ _ _ _ _ => (pg_tupK (K := K) (n := 2) rfl rfl (pgs_cons (pg_name (i := 9) S.nd rfl (Or.inl rfl)) (pgs_cons (pg_name (i := 10) S.nd rfl (Or.inl rfl)) pgs_nil)))) (fun _ _ _ _ _ => (pts_one (pt_cmpR op_eq (pe_ix (ix_tupK (K := K) rfl) (pv 9) pe_int (fun _ _ => rfl)) (pv 2) (nomark _)))) (fun _ _ _ _ _ => (pe_op op_add (pe_ix (ix_tupK (K := K) rfl) (pv 9) pe_int (fun _ _ => rfl)) pe_int)))) pa_nil)))
      (pss_cons (ps_set (i := 7) S.nd rfl (Or.inl rfl) (pe_lst pa_nil))
      (pss_cons (ps_for PassesOwn.never rfl (pi_items (pv 3)) (pg_tup rfl (pgs_cons (pg_name (i := 8) S.nd rfl (Or.inl rfl)) (pgs_cons (pg_tup rfl (pgs_cons (pg_name (i := 9) S.nd rfl (Or.inl rfl)) (pgs_cons (pg_name (i := 10) S.nd rfl (Or.inl rfl)) pgs_nil))) pgs_nil))) (pss_one (ps_if (PW.pt (pw_and (pt_cmpR op_eq (pe_ix ix_tup (pv 10) pe_int (fun _ _ => rfl)) (pv 2) (nomark _)) (pw_and1 (pt_chain op_le op_lt (pv 5) (pe_ix ix_tup (pv 10) pe_int (fun _ _ => rfl)) (pv 6))))) (pss_one (ps_expr (pe_bm PySem.F.plainAttrs_list PySem.F.slot_list_append PySem.F.type_list_append mt_append (pv 7) (pa_cons (pv 8) pa_nil)))) pss_nil)))
      (pss_one (ps_ret (pv 7)))))))), ?_⟩
  rintro ⟨x, k, h, hh⟩ F B Q q
  have ok := k.ok h hh
  have s13 := sz13 x h
  have kl : (k.ke.getD h []).length ≤ 14 := by have := ok.len; omega
  refine n_seq (n_asgT (t := tT [tEx (Crs x.rs) fun cs => tD (cs.map crK), tn (sz x.rs h)]) (e_tup2 (e_f x (ea_cons (e_var rfl) ea_nil)) (e_ixT (i := (h : Int)) (e_fld (e_var rfl) T.cls T.sizes x.ok.siz) (e_var rfl) (map_at (sizes_at hh)))) (tg_2 ?_))
  refine n_ex (i := 3) rfl fun cs hcs => ?_
  have c13 := hcs.len x.R
  have d0 : ∀ s : Nat, decide (V.int (s : Int) = V.int 0) = decide (s = 0) := fun s => vnat (a := s) (b := 0)
  have gl : (k.ke.getD h []).filter (fun s => decide (s < sz x.rs h) || decide (sz x.rs h = 0)) ≠ [] := by
    intro e
    have m0 : 0 ∈ k.ke.getD h [] := List.mem_of_getElem? ok.hd
    have m : 0 ∈ (k.ke.getD h []).filter (fun s => decide (s < sz x.rs h) || decide (sz x.rs h = 0)) := List.mem_filter.mpr ⟨m0, (show (decide (0 < sz x.rs h) || decide (sz x.rs h = 0)) = true by rw [Bool.or_eq_true, decide_eq_true_iff, decide_eq_true_iff]; omega)⟩
    rw [e] at m
    cases m
  refine n_seq (n_asg (t := tEx (fun b => b ∈ ((k.ke.getD h []).filter fun s => decide (s < sz x.rs h) || decide (sz x.rs h = 0)) ∧ ∀ y ∈ ((k.ke.getD h []).filter fun s => decide (s < sz x.rs h) || decide (sz x.rs h = 0)), y ≤ b) tn) (e_bi1 (t := tL (((k.ke.getD h []).filter fun s => decide (s < sz x.rs h) || decide (sz x.rs h = 0)).map tn)) (EN.l (en_fil (xs := k.ke.getD h []) (f := tn) (u := tn) (c := fun s => decide (s < sz x.rs h) || decide (sz x.rs h = 0)) (src_sq (tup := k.tup) (e_dget (k := kn h) (e_var rfl) (e_var rfl) (k.look h hh))) (by omega) fun s hs => ⟨_, tc_name (by decide), et_or (b := decide (s < sz x.rs h)) (c := decide (sz x.rs h = 0)) (et_test ((e_op0 (i := (s : Int)) (j := (sz x.rs h : Int)) (e_var rfl) (e_var rfl)).to (congrArg tB (decide_eq_decide.mpr (by omega))))) (fun _ => et_test ((e_eq (e_var rfl) e_c rfl).to (congrArg tB (d0 _)))), fun _ => e_var rfl⟩)) (bi_max gl)) ?_)
  refine n_ex (i := 5) rfl fun b hb => ?_
  refine n_seq (n_asg (t := tEx (fun m => m ∈ ([0] ++ (cs.filter fun c : Cr => decide (c.2.1.1 = h)).map fun c : Cr => c.2.1.2 + 1) ∧ ∀ y ∈ ([0] ++ (cs.filter fun c : Cr => decide (c.2.1.1 = h)).map fun c : Cr => c.2.1.2 + 1), y ≤ m) tn) (e_bi1 (t := tL (([0] ++ (cs.filter fun c : Cr => decide (c.2.1.1 = h)).map fun c : Cr => c.2.1.2 + 1).map tn)) ((EN.l (en_cat (ts := [tn 0]) (us := (cs.filter fun c : Cr => decide (c.2.1.1 = h)).map fun c : Cr => tn (c.2.1.2 + 1)) (EN.l (en_lst (ea_cons e_c ea_nil) (by show 1 ≤ 100000; decide))) (EN.l (en_fil (xs := cs) (f := fun c : Cr => tT [tPr c.2.1, tPr c.2.2]) (u := fun c : Cr => tn (c.2.1.2 + 1)) (c := fun c : Cr => decide (c.2.1.1 = h)) ?_ (by omega) fun c hc => ⟨_, tc_2 (by decide) (by decide), et_test ((e_eq (e_ixT (i := 0) (e_var (t := tPr c.2.1) rfl) e_c rfl) (e_var rfl) rfl).to (congrArg tB vnat)), fun _ => ?_⟩)) ?_)).to ?_) (bi_max (List.cons_ne_nil _ _))) ?_)
  · have s := src_vals (Γ := [some (x.t K), some k.t, some (tn h), some (tD (cs.map crK)), some (tn (sz x.rs h)), some (tn b), none, none, none, none, none, none]) (M := []) (kvs := cs.map crK) (e_var (i := 3) rfl)
    rw [List.map_map] at s
    exact s
  · exact e_op0 (e_ixT (i := 1) (e_var (t := tPr c.2.1) rfl) e_c rfl) e_c
  · rw [List.length_map]
    have : (cs.filter fun c => decide (c.2.1.1 = h)).length ≤ cs.length := List.length_filter_le ..
    show 1 + _ ≤ 100000
    omega
  · rw [List.map_append, List.map_map]
    rfl
  refine n_ex (i := 6) rfl fun e he => ?_
  have hb1 := List.mem_filter.mp hb.1
  have hb2 : b < sz x.rs h ∨ sz x.rs h = 0 := by
    have := hb1.2
    rw [Bool.or_eq_true, decide_eq_true_iff, decide_eq_true_iff] at this
    exact this
  have inb : ∀ p, p < sz x.rs h → (b ≤ p ↔ ∀ s ∈ k.ke.getD h [], s < sz x.rs h → s ≤ p) := fun p hp => by
    constructor
    · intro h1 s hs hlt
      have := hb.2 s (List.mem_filter.mpr ⟨hs, (show (decide (s < sz x.rs h) || decide (sz x.rs h = 0)) = true by rw [decide_eq_true hlt] <;> rfl)⟩)
      omega
    · intro h1
      exact h1 b hb1.1 (by omega)
  have ine : ∀ p, p < e ↔ ∃ c, Car x.rs c ∧ c.2.1.1 = h ∧ p ≤ c.2.1.2 := fun p => by
    constructor
    · intro h1
      rcases List.mem_append.mp he.1 with h2 | h2
      · have : e = 0 := by simpa using h2
        omega
      · obtain ⟨c, hc, ec⟩ := List.mem_map.mp h2
        have hc' := List.mem_filter.mp hc
        exact ⟨c, (hcs.mem c).mp hc'.1, of_decide_eq_true hc'.2, by omega⟩
    · rintro ⟨c, hc, h1, h2⟩
      have := he.2 (c.2.1.2 + 1) (List.mem_append_right _ (List.mem_map.mpr ⟨c, List.mem_filter.mpr ⟨(hcs.mem c).mpr hc, decide_eq_true h1⟩, rfl⟩))
      omega
  refine n_seq (n_asgN (en_lst ea_nil (by decide)) fun fp => ?_)
  refine n_seq (n_for (α := List Nat) (fun i ls => ls = ((cs.take i).filter fun c : Cr => decide (c.2.2.1 = h) && (decide (b ≤ c.2.2.2) && decide (c.2.2.2 < e))).map (·.1)) (fun _ => [some (x.t K), some k.t, some (tn h), some (tD (cs.map crK)), some (tn (sz x.rs h)), some (tn b), some (tn e), some (tR fp), none, none, none, none]) (fun ls => [(fp, mL (ls.map tn))]) (src_items (e_var rfl)) [] rfl rfl rfl (fun B' eB i t ls ht hls => ?_) fun ls hls => ?_)
  · rw [List.map_map, List.getElem?_map] at ht
    cases ec : cs[i]? with
    | none => rw [ec] at ht; cases ht
    | some c =>
    rw [ec] at ht
    have ht' := Option.some.inj ht
    subst ht'
    have et : cs.take (i + 1) = cs.take i ++ [c] := by rw [List.take_succ, ec] <;> rfl
    obtain ⟨l, ⟨a1, a2⟩, ⟨d, p⟩⟩ := c
    have tst := et_and (Γ := [some (x.t K), some k.t, some (tn h), some (tD (cs.map crK)), some (tn (sz x.rs h)), some (tn b), some (tn e), some (tR fp), some (tn l), some (tPr (a1, a2)), some (tPr (d, p)), none]) (M := [(fp, mL (ls.map tn))])
      (et_test ((e_eq (e_ixT (K := K) (i := 0) (e_var (i := 10) (t := tPr (d, p)) rfl) (e_c (v := .int 0)) rfl) (e_var (i := 2) rfl) rfl).to (congrArg tB vnat)))
      fun _ => et_test ((e_chain (f := fun i j => decide (i ≤ j)) (g := fun i j => decide (i < j)) (e_var (i := 5) rfl) (e_ixT (K := K) (i := 1) (e_var (i := 10) (t := tPr (d, p)) rfl) (e_c (v := .int 1)) rfl) fun _ => e_var (i := 6) rfl).to (u := tB (decide (b ≤ p) && decide (p < e))) (congrArg tB (by
        have e1 : decide ((b : Int) ≤ (p : Int)) = decide (b ≤ p) := decide_eq_decide.mpr (by omega)
        have e2 : decide ((p : Int) < (e : Int)) = decide (p < e) := decide_eq_decide.mpr (by omega)
        rw [e1, e2])))
    have ll : ls.length ≤ 13 := by
      rw [hls, List.length_map]
      refine Nat.le_trans (List.length_filter_le ..) ?_
      rw [List.length_take]
      omega
    refine tg_12 (n_if tst (fun hc => ?_) fun hc => ?_)
    · refine n_app (j := 0) rfl (e_var rfl) (e_var rfl) (by rw [List.length_map]; omega) (n_fg [8, 9, 10] (li (ls ++ [l]) ?_ rfl ?_))
      · rw [et, List.filter_append, List.map_append, hls, List.filter_cons, if_pos hc.symm]
        rfl
      · rw [List.map_append]
        rfl
    · refine n_next (n_fg [8, 9, 10] (li ls ?_ rfl rfl))
      rw [et, List.filter_append, List.map_append, hls, List.filter_cons, if_neg (by rw [← hc]; decide)]
      exact (List.append_nil _).symm
  · rw [List.length_map, List.length_map, List.take_length] at hls
    refine n_frz (i := 7) (j := 0) rfl rfl (n_ret (e_var rfl) fun v H G z1 z2 z3 z4 => q v H G z1 z2 z3 ⟨ls, ⟨fun l => ?_, ?_, ?_⟩, z4⟩)
    · rw [hls, List.mem_map]
      constructor
      · rintro ⟨c, hc, rfl⟩
        obtain ⟨m1, m2⟩ := List.mem_filter.mp hc
        rw [Bool.and_eq_true, Bool.and_eq_true, decide_eq_true_iff, decide_eq_true_iff, decide_eq_true_iff] at m2
        obtain ⟨e1, e2, e3⟩ := m2
        have car := (hcs.mem c).mp m1
        have car2 := car.2
        rw [e1] at car2
        have hp : c.2.2.2 < sz x.rs h := by
          unfold letAt at car2
          cases z : evAt x.rs h c.2.2.2 with
          | none => rw [z] at car2; cases car2
          | some ev => exact (evAt_lt z).2
        exact ⟨c.2.2.2, car2, (inb _ hp).mp e2, (ine _).mp e3⟩
      · rintro ⟨p, h1, h2, h3⟩
        obtain ⟨s, p', h4⟩ := let_says x.R h1
        have hp : p < sz x.rs h := by
          unfold letAt at h1
          cases z : evAt x.rs h p with
          | none => rw [z] at h1; cases h1
          | some ev => exact (evAt_lt z).2
        refine ⟨(l, (s, p'), (h, p)), List.mem_filter.mpr ⟨(hcs.mem _).mpr ⟨h4, h1⟩, ?_⟩, rfl⟩
        rw [Bool.and_eq_true, Bool.and_eq_true, decide_eq_true_iff, decide_eq_true_iff, decide_eq_true_iff]
        exact ⟨rfl, (inb p hp).mpr h2, (ine p).mpr h3⟩
    · rw [hls]
      exact hcs.nd.sublist ((List.filter_sublist ..).map _)
    · rw [hls, List.length_map]
      exact Nat.le_trans (List.length_filter_le ..) c13
structure DueA {rs : List Row} (k : Ka rs) (ls : List Nat) : Prop where
  inc : ls.Pairwise (· < ·)
  mem : ∀ l, l ∈ ls ↔ Due k l
  len : ls.length ≤ 60
theorem due_one {rs : List Row} (R : Rs rs) {ke ke' : List Nat} {h h' l : Nat} (a : DueH rs ke h l) (b : DueH rs ke' h' l) : h = h' := by
  obtain ⟨p, p1, _⟩ := a
  obtain ⟨p', p2, _⟩ := b
  exact (R.good.u2 _ _ _ _ _ p1 p2).1
theorem f_to_write (T : En K mg) : Cal P w K mg "to_write" 7 ["picture", "kept"] (spN (fun y : Kq => [y.x.t K, y.k.t]) (fun y => mEx (DueA y.k) fun ls => mL (ls.map tn))) := by
  have S : FnScope ["picture", "kept", "found", "house"] ["picture", "kept"] d_to_write.scope := ⟨rfl, rfl, rfl, by decide +kernel, rfl, by decide +kernel, by decide +kernel⟩
  refine Cal.mkN' (n := 2) T 36 30 rfl rfl rfl rfl rfl S rfl (fun _ => rfl) (fun _ _ _ _ _ _ us hl => match us, hl with | [_, _], _ => rfl) fun base cdv A outer s H EX hr => ⟨_, (pss_cons (ps_expr (pe_f (f_want_kept T) (hr.mono (by decide)) rfl (pa_cons (pv 0) (pa_cons (pv 1) pa_nil))))
      (pss_cons (ps_set (i := 2) S.nd rfl (Or.inl rfl) (pe_lst pa_nil))
      (pss_cons (ps_for PassesOwn.never rfl (pi_range1 rfl T.range (pa_cons (pe_g T.cls (g_houses T) (hr.mono (by decide)) (pv 0) rfl) pa_nil)) (pg_name (i := 3) S.nd rfl (Or.inl rfl)) (pss_one (ps_expr (pe_bm PySem.F.plainAttrs_list PySem.F.slot_list_extend PySem.F.type_list_extend mt_extend (pv 2) (pa_cons (pe_f (f_wanted_of T) hr rfl (pa_cons (pv 0) (pa_cons (pv 1) (pa_cons (pv 3) pa_nil)))) pa_nil)))))
      (pss_one (ps_ret (pe_callB cr_sortedI rfl T.sorted bo_sorted (pa_cons (pv 2) pa_nil))))))), ?_⟩
  rintro y F B Q q
  have n4 := y.x.R.n4
  refine n_seq (n_drop (e_f y (ea_cons (e_var rfl) (ea_cons (e_var rfl) ea_nil))) ?_)
  refine n_seq (n_asgN (en_lst ea_nil (by decide)) fun fp => ?_)
  refine n_seq (n_for (α := List Nat) (fun i ls => (∀ l, l ∈ ls ↔ ∃ h, h < i ∧ DueH y.x.rs (y.k.ke.getD h []) h l) ∧ ls.Nodup ∧ ls.length ≤ 13 * i) (fun _ => [some (y.x.t K), some y.k.t, some (tR fp), none]) (fun ls => [(fp, mL (ls.map tn))]) (src_range1 (ea_cons (e_p y.x (e_var rfl)) ea_nil) (by omega)) [] ⟨fun l => ⟨(fun z => by cases z), fun ⟨h, z, _⟩ => absurd z (Nat.not_lt_zero _)⟩, List.nodup_nil, Nat.le_refl _⟩ rfl rfl (fun B' eB h t ls ht hls => ?_) fun ls hls => ?_)
  · have hh : h < y.x.rs.length := by
      have := (List.getElem?_eq_some_iff.mp ht).1
      simpa using this
    rw [range_at ht]
    refine tg_name (n_extX (j := 0) (ts := ls.map tn) rfl (e_var rfl) (e_f ⟨y.x, y.k, h, hh⟩ (ea_cons (e_var rfl) (ea_cons (e_var rfl) (ea_cons (e_var rfl) ea_nil)))) (fun us hus => ?_) fun us hus => ?_)
    · rw [List.length_map, List.length_map]
      have := hls.2.2
      have := hus.len
      omega
    · refine n_fg [3] (li (ls ++ us) ⟨fun l => ?_, ?_, ?_⟩ rfl ?_)
      · rw [List.mem_append, hls.1, hus.mem]
        constructor
        · rintro (⟨h', h1, h2⟩ | h2)
          · exact ⟨h', by omega, h2⟩
          · exact ⟨h, Nat.lt_succ_self _, h2⟩
        · rintro ⟨h', h1, h2⟩
          by_cases e : h' = h
          · subst e
            exact .inr h2
          · exact .inl ⟨h', by omega, h2⟩
      · refine List.nodup_append.mpr ⟨hls.2.1, hus.nd, fun a ha b hb e => ?_⟩
        subst e
        obtain ⟨h', h1, h2⟩ := (hls.1 a).mp ha
        have h3 : DueH y.x.rs (y.k.ke.getD h []) h a := (hus.mem a).mp hb
        have := due_one y.x.R h2 h3
        omega
      · rw [List.length_append]
        have := hls.2.2
        have := hus.len
        omega
      · rw [List.map_append]
        rfl
  · rw [List.length_map, List.length_range] at hls
    refine n_frz (i := 2) (j := 0) rfl rfl (n_retNew ((en_bi1 (e_var rfl) bin_sorted).imp fun o G hm => ?_) q)
    obtain ⟨ms, ⟨m1, m2⟩, m3⟩ := hm
    have nd : ms.Nodup := m1.nodup_iff.mpr hls.2.1
    refine ⟨ms, ⟨?_, fun l => ?_, ?_⟩, m3⟩
    · exact (m2.and nd).imp fun h => by omega
    · rw [m1.mem_iff, hls.1]
      rfl
    · rw [m1.length_eq]
      have := hls.2.2
      omega
structure Eq4 where
  x : Pc
  k : Ka x.rs
  tup : Bool
  ws : List Nat
  car : ∀ l ∈ ws, ∃ c, Car x.rs c ∧ c.1 = l
  wnd : ws.Nodup
theorem f_are_enough (T : En K mg) : Cal P w K mg "are_enough" 8 ["picture", "kept", "written"] (spT (fun y : Eq4 => [y.x.t K, y.k.t, tSq y.tup (y.ws.map tn)]) (fun y => tEx (fun b : Bool => b = true ↔ ∀ l, Due y.k l → l ∈ y.ws) tB)) := by
  have S : FnScope ["picture", "kept", "written", "letter"] ["picture", "kept", "written"] d_are_enough.scope := ⟨rfl, rfl, rfl, by decide +kernel, rfl, by decide +kernel, by decide +kernel⟩
  refine Cal.mk' (n := 1) T 37 31 rfl rfl rfl rfl rfl S rfl (fun _ => rfl) (fun _ _ _ _ _ _ us hl => match us, hl with | [_, _, _], _ => rfl) fun base cdv A outer s H EX hr => ⟨_, (pss_cons (ps_expr (pe_f (f_want_kept T) (hr.mono (by decide)) rfl (pa_cons (pv 0) (pa_cons (pv 1) pa_nil))))
      (pss_cons (ps_expr (pe_f (f_want_written T) (hr.mono (by decide)) rfl (pa_cons (pv 0) (pa_cons (pv 2) pa_nil))))
      (pss_one (ps_ret (pe_callB (cr_all rfl) rfl T.all bo_all (pa_cons (pe_lc (own := [("letter", 3)]) rfl S.nd (pi_list (pe_f (f_to_write T) hr rfl (pa_cons (pv 0) (pa_cons (pv 1) pa_nil)))) (blkOk_by (own := [("letter", 3)]) (N := ["picture", "kept", "written", "letter"]) (sc := d_are_enough.scope) (by decide +kernel)) (fun _ _ _ _ _ => (pg_name (i := 3) S.nd rfl (Or.inl rfl))) (fun _ _ _ _ _ => pts_nil) (fun _ _ _ _ _ => (pe_cmpR (op_in_seqK (K := K) rfl) (pv 3) (pv 2) rfl))) pa_nil)))))), ?_⟩
  rintro ⟨x, k, tup, ws, car, wnd⟩ F B Q q
  refine n_seq (n_drop (e_f ⟨x, k⟩ (ea_cons (e_var rfl) (ea_cons (e_var rfl) ea_nil))) ?_)
  refine n_seq (n_drop (e_f ⟨x, tup, ws, car, wnd⟩ (ea_cons (e_var rfl) (ea_cons (e_var rfl) ea_nil))) ?_)
  refine n_ret (E.imp (e_allX (φ := DueA k) (xs := fun ls => ls) (f := fun l => decide (l ∈ ws)) (en_mapX (f := tn) (srcx_list (EN.lx (en_f (⟨x, k⟩ : Kq) (ea_cons (e_var rfl) (ea_cons (e_var rfl) ea_nil))))) (fun ls hls => by have := hls.len; omega) fun ls hls l hl => ⟨_, tc_name (by decide), e_inN (tup := tup) (neg := false) (e_var rfl) (e_var rfl)⟩)) fun v G a => ?_) q
  obtain ⟨ls, hls, h⟩ := a
  refine ⟨_, ?_, h⟩
  show (ls.all fun l => decide (l ∈ ws)) = true ↔ ∀ l, Due k l → l ∈ ws
  rw [List.all_eq_true]
  constructor
  · exact fun z l hl => of_decide_eq_true (z l ((hls.mem l).mpr hl))
  · exact fun z l hl => decide_eq_true (z l ((hls.mem l).mp hl))
def FlP {rs : List Row} (k : Ka rs) (ws : List Nat) : Option Nat → Prop
  | none => ∀ h, h < rs.length → ∀ l, DueH rs (k.ke.getD h []) h l → l ∈ ws
  | some h => h < rs.length ∧ (∃ l, DueH rs (k.ke.getD h []) h l ∧ l ∉ ws) ∧ ∀ h', h' < h → ∀ l, DueH rs (k.ke.getD h' []) h' l → l ∈ ws
def tOn : Option Nat → Ty
  | none => tN
  | some h => tn h
theorem f_first_loss (T : En K mg) : Cal P w K mg "first_loss" 7 ["picture", "kept", "written"] (spT (fun y : Eq4 => [y.x.t K, y.k.t, tSq y.tup (y.ws.map tn)]) (fun y => tEx (FlP y.k y.ws) tOn)) := by
  have S : FnScope ["picture", "kept", "written", "house", "letter"] ["picture", "kept", "written"] d_first_loss.scope := ⟨rfl, rfl, rfl, by decide +kernel, rfl, by decide +kernel, by decide +kernel⟩
  refine Cal.mk' (n := 2) T 38 32 rfl rfl rfl rfl rfl S rfl (fun _ => rfl) (fun _ _ _ _ _ _ us hl => match us, hl with | [_, _, _], _ => rfl) fun base cdv A outer s H EX hr => ⟨_, (pss_cons (ps_expr (pe_f (f_want_kept T) (hr.mono (by decide)) rfl (pa_cons (pv 0) (pa_cons (pv 1) pa_nil))))
      (pss_cons (ps_expr (pe_f (f_want_written T) hr rfl (pa_cons (pv 0) (pa_cons (pv 2) pa_nil))))
      (pss_cons (ps_for PassesOwn.never rfl (pi_range1 rfl T.range (pa_cons (pe_g T.cls (g_houses T) (hr.mono (by decide)) (pv 0) rfl) pa_nil)) (pg_name (i := 3) S.nd rfl (Or.inl rfl)) (pss_one (ps_if (pt_val (pe_callB (cr_any rfl) rfl T.any bo_any (pa_cons (pe_lc (own := [("letter", 4)]) rfl S.nd (pi_list (pe_f (f_wanted_of T) hr rfl (pa_cons (pv 0) (pa_cons (pv 1) (pa_cons (pv 3) pa_nil))))) (blkOk_by (own := [("letter", 4)]) (N := ["picture", "kept", "written", "house", "letter"]) (sc := d_first_loss.scope) (by decide +kernel)) (fun _ _ _ _ _ => (pg_name (i := 4) S.nd rfl (Or.inl rfl))) (fun _ _ _ _ _ => pts_nil) (fun _ _ _ _ _ => (pe_cmpR (op_notIn_seqK (K := K) rfl) (pv 4) (pv 2) rfl))) pa_nil))) (pss_one (ps_ret (pv 3))) pss_nil)))
      (pss_one (ps_ret pe_non))))), ?_⟩
  rintro ⟨x, k, tup, ws, car, wnd⟩ F B Q q
  have n4 := x.R.n4
  refine n_seq (n_drop (e_f ⟨x, k⟩ (ea_cons (e_var rfl) (ea_cons (e_var rfl) ea_nil))) ?_)
  refine n_seq (n_drop (e_f ⟨x, tup, ws, car, wnd⟩ (ea_cons (e_var rfl) (ea_cons (e_var rfl) ea_nil))) ?_)
  refine n_seq (n_for (α := Unit) (fun i _ => ∀ h, h < i → ∀ l, DueH x.rs (k.ke.getD h []) h l → l ∈ ws) (fun _ => [some (x.t K), some k.t, some (tSq tup (ws.map tn)), none, none]) (fun _ => []) (src_range1 (ea_cons (e_p x (e_var rfl)) ea_nil) (by omega)) () (fun h z => absurd z (Nat.not_lt_zero _)) rfl rfl (fun B' eB h t _ ht hl => ?_) fun _ hl => ?_)
  · have hh : h < x.rs.length := by
      have := (List.getElem?_eq_some_iff.mp ht).1
      simpa using this
    rw [range_at ht]
    refine tg_name (n_if (et_Bx (E.imp (u := tEx (fun b : Bool => b = true ↔ ∃ l, DueH x.rs (k.ke.getD h []) h l ∧ l ∉ ws) tB) (e_anyX (φ := DueL x.rs (k.ke.getD h []) h) (xs := fun ls => ls) (f := fun l => !decide (l ∈ ws)) (en_mapX (f := tn) (srcx_list (e_f (⟨x, k, h, hh⟩ : Hq) (ea_cons (e_var rfl) (ea_cons (e_var rfl) (ea_cons (e_var rfl) ea_nil))))) (fun ls hls => by have := hls.len; omega) fun ls hls l hl => ⟨_, tc_name (by decide), e_inN (tup := tup) (neg := true) (e_var rfl) (e_var rfl)⟩)) fun v G a => ?_)) (fun hb => ?_) fun hb => ?_)
    · obtain ⟨ls, hls, z⟩ := a
      refine ⟨_, ?_, z⟩
      show (ls.any fun l => !decide (l ∈ ws)) = true ↔ ∃ l, DueH x.rs (k.ke.getD h []) h l ∧ l ∉ ws
      rw [List.any_eq_true]
      constructor
      · rintro ⟨l, h1, h2⟩
        exact ⟨l, (hls.mem l).mp h1, by simpa using h2⟩
      · rintro ⟨l, h1, h2⟩
        exact ⟨l, (hls.mem l).mpr h1, by simpa using h2⟩
    · exact n_ret ((e_var rfl).imp (u := tEx (FlP k ws) tOn) fun v G z => ⟨some h, ⟨hh, hb.mp rfl, hl⟩, z⟩) (q.base eB)
    · refine n_next (n_fg [3] (li () (fun h' h1 l h2 => ?_) rfl rfl))
      by_cases e : h' = h
      · subst e
        by_cases m : l ∈ ws
        · exact m
        · exact absurd (hb.mpr ⟨l, h2, m⟩) (by decide)
      · exact hl h' (by omega) l h2
  · rw [List.length_map, List.length_range] at hl
    exact n_ret (e_c.imp (u := tEx (FlP k ws) tOn) fun v G z => ⟨none, hl, z⟩) q
end
end K89
set_option Elab.async false
set_option linter.all false
set_option maxRecDepth 100000
set_option maxHeartbeats 4000000
/-! K89W11: the pot of numbers. -/
namespace K89
open PySem PySem.Spec PyProof.Rows L2
def PotOk (z : Int × Int) : Prop := 0 ≤ z.1 ∧ 0 ≤ z.2 ∧ z.2 ≤ 2147483549
def mPot : MTy := mEx PotOk fun z => mL [tI z.1, tI z.2]
section
variable {F B : Hp} {Γ : Gam} {M : List Mut1} {ta tb te : TE} {t t1 t2 : Ty} {ts : List Ty} {K : PySem.W.Frag} {p : Addr} {m : MTy} {nx bk ct : L2.St → Hp → Prop} {rt : VK} {P : L2.St → Hp → Prop}
/-- one of ours is known by less -/
theorem n_clM {α : Type} {φ : α → Prop} {f : α → MTy} {j : Nat} {y : α} (hj : M[j]? = some (p, f y)) (hy : φ y) (h : N P F B Γ (M.set j (p, mEx φ f))) : N P F B Γ M := fun σ H G s g => by
  obtain ⟨h1, h2, o, h3, h4⟩ := s.mm p _ (List.mem_of_getElem? hj)
  have s' := s.put (m' := mEx φ f) (o := o) hj ⟨y, hy, h4⟩
  have e : upd H p o = H := by
    funext a
    by_cases z : a = p
    · rw [z, upd_same, h3]
    · rw [upd_ne z]
  rw [e] at s'
  exact h σ H G s' g
/-- one item, which is not known -/
theorem e_ixLX {n : Nat} (ha : K89.E ta Γ M (tL ts)) (hb : K89.E tb Γ M (tEx (fun d => d < n) tn)) (hn : n ≤ ts.length) : K89.E (tOp (rIxL K) ta tb) Γ M (tEx (fun t : Ty => t ∈ ts) fun t => t) := fun F B σ H G s g Q q =>
  ha F B σ H G s g _ fun v1 H1 G1 s1 e1 a1 => hb F B σ H1 G1 s1 (g.mono e1) _ fun v2 H2 G2 s2 e2 a2 => by
    obtain ⟨a, vs, rfl, ea, av⟩ := a1
    obtain ⟨d, hd, a2⟩ := a2
    have ht : ts[d]? = some ts[d] := List.getElem?_eq_getElem (by omega)
    obtain ⟨v, hv, tv⟩ := av.get ht
    exact ⟨a, vs, (d : Int), v, rfl, a2, SqL.of (s2.er a _ (e2 a _ ea)), atI_n hv, q v H2 G2 s2 (e1.trans e2) ⟨ts[d], List.getElem_mem _, (ts[d]).mono e2 tv⟩⟩
/-- xs[i], a = pair -/
theorem tg_subName {i j l : Nat} (hj : M[j]? = some (p, mL ts)) (ha : K89.E ta Γ M (tR p)) (hb : K89.E tb Γ M (tn i)) (hi : i < ts.length) (k : N P F B (Γ.set l (some t2)) (M.set j (p, mL (ts.set i t1)))) : TgN (gTup K 2 (gCons (gSub ta tb L2.rSetL) (gCons (gName l) gNil))) (tT [t1, t2]) F B Γ M P := fun σ H G v s g a => by
  obtain ⟨b, vs, rfl, eb, av⟩ := a
  obtain ⟨x, y, rfl, ax, ay⟩ := at2 av
  refine ⟨b, [x, y], rfl, SqT.of (s.er b _ eb), rfl, x, [y], rfl, ?_⟩
  refine ha F B σ H G s g _ fun v2 H2 G2 s2 e2 a2 => hb F B σ H2 G2 s2 (g.mono e2) _ fun v3 H3 G3 s3 e3 a3 => ?_
  have a2' : v2 = .ref p := a2
  have a3' : v3 = .int (i : Int) := a3
  subst a2' a3'
  obtain ⟨_, _, o, k3, ws, k4, k5⟩ := s3.mm p _ (List.mem_of_getElem? hj)
  subst k4
  exact ⟨p, ws, (i : Int), i, rfl, rfl, k3, ixN_nat (by rw [k5.length]; exact hi), y, [], rfl, rfl, k _ _ G3 (s3.put hj ⟨_, rfl, k5.set (t1.mono e3 (t1.mono e2 ax)) i⟩) (((g.mono e2).mono e3).set (t2.mono e3 (t2.mono e2 ay)) l)⟩
end
theorem retP_ex {F B : Hp} {p : Addr} {t : Ty} {Q : VK} {α : Type} {φ : α → Prop} {f : α → MTy} (k : RetP F B p t (mEx φ f) Q) (y : α) (hy : φ y) : RetP F B p t (f y) Q := fun v H G o e1 e2 fr hp gp ho tv => k v H G o e1 e2 fr hp gp ⟨y, hy, ho⟩ tv
theorem fmod_ok {x n : Int} (h : 0 < n) : 0 ≤ x.fmod n ∧ x.fmod n < n := ⟨Int.fmod_nonneg_of_pos x h, Int.fmod_lt_of_pos x h⟩
theorem fm1 (x : Int) : 0 ≤ x.fmod 2147483549 + 1 ∧ x.fmod 2147483549 + 1 ≤ 2147483549 := by
  have := fmod_ok (x := x) (n := 2147483549) (by decide)
  omega
theorem nat_of {x : Int} {n : Nat} (h : 0 ≤ x ∧ x < n) : ∀ v G, (tI x).at_ v G → (tEx (fun d => d < n) tn).at_ v G := fun v G a => ⟨x.toNat, by omega, by
  have a' : v = .int x := a
  rw [a']
  show V.int x = V.int ((x.toNat : Nat) : Int)
  congr 1
  omega⟩
theorem sqL_mono {K : PySem.W.Frag} {G H : Hp} {a : Addr} {vs : List V} (e : Er G H) (h : SqL K G a vs) : SqL K H a vs := by
  rcases h with (h | ⟨o, h⟩) | h
  · exact .inl (.inl (e _ _ h))
  · exact .inl (.inr ⟨o, e _ _ h⟩)
  · exact .inr h
/-- the script: a list, wherever it lies -/
def tScr (K : PySem.W.Frag) (vs : List V) : Ty := ⟨fun v G => ∃ a, v = .ref a ∧ SqL K G a vs, fun e h => let ⟨a, e1, e2⟩ := h; ⟨a, e1, sqL_mono e e2⟩⟩
section
variable {Γ : Gam} {M : List Mut1} {ta tb : TE} {K : PySem.W.Frag}
theorem bi_lenK {vs : List V} : Bi (rLen K) [tScr K vs] (tn vs.length) := fun F B M H G us s a Q q => by
  obtain ⟨v, rfl, b, rfl, hb⟩ := at1 a
  exact ⟨_, vs.length, rfl, Or.inl ⟨vs, sqL_mono s.er hb, rfl⟩, q _ H G s (Er.refl G) rfl⟩
theorem e_ixK {vs : List V} {i : Int} {v : V} (ha : K89.E ta Γ M (tScr K vs)) (hb : K89.E tb Γ M (tI i)) (h : atI vs i = some v) : K89.E (tOp (rIxL K) ta tb) Γ M (tV v) := fun F B σ H G s g Q q =>
  ha F B σ H G s g _ fun v1 H1 G1 s1 e1 a1 => hb F B σ H1 G1 s1 (g.mono e1) _ fun v2 H2 G2 s2 e2 a2 => by
    obtain ⟨a, rfl, ea⟩ := a1
    exact ⟨a, vs, i, v, rfl, a2, sqL_mono (e2.trans s2.er) ea, h, q v H2 G2 s2 (e1.trans e2) rfl⟩
end
section
variable {P : Program} {w : World} {K : PySem.W.Frag} {mg : Str → Option Value}
theorem f__law_pot (T : En K mg) : Cal P w K mg "_law_pot" 1 ["_law_script", "_law_k"] (spN (fun (ns : List Int) => [tScr K (ns.map V.int), tn 0]) (fun _ => mPot)) := by
  have S : FnScope ["_law_script", "_law_k", "_law_cell"] ["_law_script", "_law_k"] d__law_pot.scope := ⟨rfl, rfl, rfl, by decide +kernel, rfl, by decide +kernel, by decide +kernel⟩
  refine Cal.mkN' (n := 1) T 39 33 rfl rfl rfl rfl rfl S rfl (fun _ => rfl) (fun _ _ _ _ _ _ us hl => match us, hl with | [_, _], _ => rfl) fun base cdv A outer s H EX hr => ⟨_, (pss_cons (ps_set (i := 2) S.nd rfl (Or.inl rfl) (pe_ifExp (pt_cmpR op_lt (pv 1) (pe_callB call_len rfl T.len bo_len (pa_cons (pv 0) pa_nil)) (nomark _)) (pe_callB call_ab rfl T.abs bo_abs (pa_cons (pe_ix ix_list (pv 0) (pv 1) (fun _ _ => rfl)) pa_nil)) (pe_op op_add (pe_op op_mul pe_int (pv 1)) pe_int)))
      (pss_one (ps_ret (pe_lst (pa_cons (pe_callB (call_mx2 rfl) rfl T.max bo_max (pa_cons pe_int (pa_cons (pe_op op_sub (pv 2) (pe_op op_pow pe_int pe_int)) pa_nil))) (pa_cons (pe_op op_add (pe_op op_modN (pe_callTy call_in1 rfl T.int_ bo_int (pa_cons (pe_op op_add (pe_op op_add (pe_op op_mul (pe_op op_modN (pe_callTy call_in1 rfl T.int_ bo_int (pa_cons (pv 2) pa_nil)) pe_int) pe_int) (pe_op op_mul pe_int (pv 1))) pe_int) pa_nil)) pe_int) pe_int) pa_nil)))))), ?_⟩
  rintro ns F B Q q
  have cell : ∃ c : Int, 0 ≤ c ∧ ∀ {Γ : Gam}, Γ[0]? = some (some (tScr K (ns.map V.int))) → Γ[1]? = some (some (tn 0)) → K89.E (tIf (tTest (tOp (rI0 fun i j => .bl (decide (i < j))) (tVar 1) (tCB (rLen K) (tCons (tVar 0) tNil)))) (tCB rAbs (tCons (tOp (rIxL K) (tVar 0) (tVar 1)) tNil)) (tOp (rI0 fun i j => .int (i + j)) (tOp (rI CMul fun i j => .int (i * j)) (tC (.int 103)) (tVar 1)) (tC (.int 17)))) Γ [] (tI c) := by
    cases ns with
    | nil => exact ⟨17, by decide, fun h0 h1 => e_if (et_test ((e_op0 (e_var h1) (e_bi1 (e_var h0) bi_lenK)).to (u := tB false) (congrArg tB (decide_eq_false (by decide))))) (fun z => nomatch z) fun _ => e_op0 (i := 103 * 0) (j := 17) (e_opC (i := 103) (j := 0) e_c (e_var h1) (Or.inl ⟨by decide, by decide⟩)) e_c⟩
    | cons n ns =>
      refine ⟨if n < 0 then -n else n, by split <;> omega, fun h0 h1 => e_if (et_test ((e_op0 (e_var h1) (e_bi1 (e_var h0) bi_lenK)).to (u := tB true) (congrArg tB (decide_eq_true ?_)))) (fun _ => e_bi1 (e_ixK (i := 0) (v := .int n) (e_var h0) (e_var h1) (atI_n (i := 0) rfl)) bi_abs) fun z => nomatch z⟩
      rw [List.length_map, List.length_cons]
      omega
  obtain ⟨c, c0, hc⟩ := cell
  refine n_seq (n_asg (hc rfl rfl) ?_)
  have e18 : (10 : Int) ^ (18 : Int).toNat = 1000000000000000000 := by decide
  refine n_retNew (m := mPot) (EN.imp (m' := mPot) (en_lst (ea_cons (e_bi2 e_c (e_op0 (e_var rfl) (e_opC (i := 10) (j := 18) e_c e_c ⟨by decide, by decide, by decide⟩)) bi_max2) (ea_cons (e_op0 (e_opC (e_bi1 (e_op0 (e_op0 (e_opC (e_opC (e_bi1 (e_var rfl) bi_int) e_c (by decide)) e_c (by exact Or.inr ⟨by decide, by decide⟩)) (e_opC e_c (e_var rfl) (by exact Or.inl ⟨by decide, by decide⟩))) e_c) bi_int) e_c (by decide)) e_c) ea_nil)) (by show 2 ≤ 100000; decide)) fun o G h => ⟨(_, _), ?_, h⟩) q
  refine ⟨?_, ?_, ?_⟩
  · show 0 ≤ (if _ > (0 : Int) then _ else (0 : Int))
    split <;> omega
  · exact (fm1 _).1
  · exact (fm1 _).2
theorem f__law_draw (T : En K mg) : Cal P w K mg "_law_draw" 1 ["_law_pot_here", "_law_many"] (spM (fun (y : {n : Nat // 1 ≤ n ∧ n ≤ 1000}) p => [tR p, tn y.1]) (fun _ => mPot) (fun _ => mPot) (fun y => tEx (fun d => d < y.1) tn)) := by
  have S : FnScope ["_law_pot_here", "_law_many", "_law_digit"] ["_law_pot_here", "_law_many"] d__law_draw.scope := ⟨rfl, rfl, rfl, by decide +kernel, rfl, by decide +kernel, by decide +kernel⟩
  refine Cal.mkM' (n := 1) T 40 34 rfl rfl rfl rfl rfl S rfl (fun _ _ => rfl) (fun _ _ _ _ _ _ us hl => match us, hl with | [_, _], _ => rfl) fun base cdv A outer s H EX hr => ⟨_, (pss_cons (ps_if (pt_cmpR op_gt (pe_ix ix_list (pv 0) pe_int (fun _ _ => rfl)) pe_int (nomark _)) (pss_cons (ps_asg (pe_callB call_dvm rfl T.divmod bo_divmod (pa_cons (pe_ix ix_list (pv 0) pe_int (fun _ _ => rfl)) (pa_cons (pv 1) pa_nil))) (pg_tup rfl (pgs_cons (pg_sub (pv 0) pe_int set_list) (pgs_cons (pg_name (i := 2) S.nd rfl (Or.inl rfl)) pgs_nil))))
      (pss_one (ps_ret (pv 2)))) pss_nil)
      (pss_cons (ps_asg (pe_op op_modN (pe_callTy call_in1 rfl T.int_ bo_int (pa_cons (pe_op op_add (pe_op op_mul (pe_ix ix_list (pv 0) pe_int (fun _ _ => rfl)) pe_int) pe_int) pa_nil)) pe_int) (pg_sub (pv 0) pe_int set_list))
      (pss_one (ps_ret (pe_op op_modN (pe_callTy call_in1 rfl T.int_ bo_int (pa_cons (pe_op op_fdivN (pe_op op_modN (pe_callTy call_in1 rfl T.int_ bo_int (pa_cons (pe_op op_mul (pe_ix ix_list (pv 0) pe_int (fun _ _ => rfl)) (pe_ix ix_list (pv 0) pe_int (fun _ _ => rfl))) pa_nil)) pe_int) pe_int) pa_nil)) (pv 1)))))), ?_⟩
  rintro ⟨n, hn⟩ p F B Q q
  have hn1 : 1 ≤ n := hn.1
  have hn2 : n ≤ 1000 := hn.2
  refine n_exM (j := 0) rfl fun z hz => ?_
  obtain ⟨a, b⟩ := z
  obtain ⟨h1, h2, h3⟩ := hz
  dsimp only at h1 h2 h3
  have rd0 {Γ : Gam} {M : List Mut1} {x y : Int} (h0 : Γ[0]? = some (some (tR p))) (hm : M[0]? = some (p, mL [tI x, tI y])) : K89.E (tOp (rIxL K) (tVar 0) (tC (.int 0))) Γ M (tI x) := E.focusL (i := 0) (j := 0) h0 hm (e_ixL (i := 0) (e_var (List.getElem?_set_self (List.getElem?_eq_some_iff.mp h0).1)) e_c rfl) flat_V
  have rd1 {Γ : Gam} {M : List Mut1} {x y : Int} (h0 : Γ[0]? = some (some (tR p))) (hm : M[0]? = some (p, mL [tI x, tI y])) : K89.E (tOp (rIxL K) (tVar 0) (tC (.int 1))) Γ M (tI y) := E.focusL (i := 0) (j := 0) h0 hm (e_ixL (i := 1) (e_var (List.getElem?_set_self (List.getElem?_eq_some_iff.mp h0).1)) e_c rfl) flat_V
  by_cases pos : a > 0
  · refine n_seq (n_ifT (et_test ((e_op0 (rd0 rfl rfl) e_c).to (congrArg tB (decide_eq_true pos)))) ?_)
    have cd : CDivP a (n : Int) := ⟨by omega, PyProof.noPylong_small (by omega)⟩
    refine n_seq (n_asgT (e_bi2 (rd0 rfl rfl) (e_var rfl) (bi_divm cd)) (tg_subName (i := 0) (j := 0) rfl (e_var rfl) e_c (by show 0 < 2; decide) ?_))
    exact n_retP ((e_var rfl).imp (nat_of (x := a % (n : Int)) (n := n) ⟨Int.emod_nonneg _ (by omega), Int.emod_lt_of_pos _ (by omega)⟩)) (retP_ex q (a / (n : Int), b) ⟨Int.ediv_nonneg h1 (by omega), h2, h3⟩)
  · refine n_seq (n_ifF (et_test ((e_op0 (rd0 rfl rfl) e_c).to (congrArg tB (decide_eq_false pos)))) (n_next ?_))
    refine n_seq (n_setL (j := 0) (i := 1) (t := tI ((b * 48271 + 31013).fmod 2147483549)) rfl (e_opC (e_bi1 (e_op0 (e_opC (rd1 rfl rfl) e_c (by exact Or.inr ⟨by decide, by decide⟩)) e_c) bi_int) e_c (by decide)) (e_var rfl) e_c (by show 1 < 2; decide) ?_)
    have f1 := fmod_ok (x := b * 48271 + 31013) (n := 2147483549) (by decide)
    have f2 : ((b * 48271 + 31013).fmod 2147483549) < 2 ^ 64 := by omega
    have f3 : -(2 ^ 64) < ((b * 48271 + 31013).fmod 2147483549) := by omega
    refine n_retP (E.imp (e_opC (j := (n : Int)) (e_bi1 (e_opC (e_opC (e_bi1 (e_opC (rd1 rfl rfl) (rd1 rfl rfl) (by exact Or.inl ⟨f3, f2⟩)) bi_int) e_c (by decide)) e_c (by exact ⟨by decide, by decide⟩)) bi_int) (e_var rfl) (by show (n : Int) ≠ 0; omega)) (nat_of (n := n) (fmod_ok (by omega)))) (retP_ex q (a, (b * 48271 + 31013).fmod 2147483549) ⟨h1, f1.1, by show Int.fmod _ _ ≤ 2147483549; omega⟩)
theorem f__law_pick (T : En K mg) : Cal P w K mg "_law_pick" 2 ["_law_pot_here", "_law_some"] (spM (fun (y : {ts : List Ty // 1 ≤ ts.length ∧ ts.length ≤ 1000}) p => [tR p, tL y.1]) (fun _ => mPot) (fun _ => mPot) (fun y => tEx (fun t : Ty => t ∈ y.1) fun t => t)) := by
  have S : FnScope ["_law_pot_here", "_law_some"] ["_law_pot_here", "_law_some"] d__law_pick.scope := ⟨rfl, rfl, rfl, by decide +kernel, rfl, by decide +kernel, by decide +kernel⟩
  refine Cal.mkM' (n := 0) T 41 35 rfl rfl rfl rfl rfl S rfl (fun _ _ => rfl) (fun _ _ _ _ _ _ us hl => match us, hl with | [_, _], _ => rfl) fun base cdv A outer s H EX hr => ⟨_, (pss_one (ps_ret (pe_ix ix_list (pv 1) (pe_f (f__law_draw T) hr rfl (pa_cons (pv 0) (pa_cons (pe_callB call_len rfl T.len bo_len (pa_cons (pv 1) pa_nil)) pa_nil))) (fun _ _ => rfl)))), ?_⟩
  rintro ⟨ts, ht⟩ p F B Q q
  refine n_retP ?_ q
  exact e_ixLX (ts := ts) (n := ts.length) (e_var rfl) (e_fS (j := 0) ⟨ts.length, ht⟩ rfl (ea_cons (e_var rfl) (ea_cons (e_bi1 (e_var rfl) bi_len) ea_nil))) (Nat.le_refl _)
end
end K89
set_option Elab.async false
set_option linter.all false
set_option maxRecDepth 100000
set_option maxHeartbeats 4000000
/-! K89W12: drawn kept states, the same by other means, lists of houses. -/
namespace K89
open PySem PySem.Spec PyProof.Rows L2
section
variable {F B : Hp} {Γ : Gam} {M : List Mut1} {ta tb te td ty tv : TE} {t t1 t2 : Ty} {ts : List Ty} {K : PySem.W.Frag} {p : Addr} {m : MTy} {nx bk ct : L2.St → Hp → Prop} {rt : VK} {β : Type} {φ : β → Prop}
theorem e_eqX {f : β → Nat} {k : Int} (ha : K89.E ta Γ M (tEx φ fun y => tn (f y))) : K89.E (tOp rEq ta (tC (.int k))) Γ M (tEx (fun _ : Bool => True) tB) := fun F B σ H G s g Q q => ha F B σ H G s g _ fun v1 H1 G1 s1 e1 a1 => by
  obtain ⟨y, _, a1⟩ := a1
  have a1' : v1 = .int (f y : Int) := a1
  subst a1'
  exact ⟨rfl, q _ H1 G1 s1 e1 ⟨_, trivial, rfl⟩⟩
theorem e_op0X {g : Int → Int → V} {f : β → Nat} {i : Int} (ha : K89.E ta Γ M (tI i)) (hb : K89.E tb Γ M (tEx φ fun y => tn (f y))) : K89.E (tOp (rI0 g) ta tb) Γ M (tEx φ fun y => tV (g i (f y))) := fun F B σ H G s gm Q q =>
  ha F B σ H G s gm _ fun v1 H1 G1 s1 e1 a1 => hb F B σ H1 G1 s1 (gm.mono e1) _ fun v2 H2 G2 s2 e2 a2 => by
    obtain ⟨y, hy, a2⟩ := a2
    exact ⟨i, (f y : Int), a1, a2, q _ H2 G2 s2 (e1.trans e2) ⟨y, hy, rfl⟩⟩
theorem e_op0Y {g : Int → Int → V} {f : β → Nat} {j : Int} (ha : K89.E ta Γ M (tEx φ fun y => tn (f y))) (hb : K89.E tb Γ M (tI j)) : K89.E (tOp (rI0 g) ta tb) Γ M (tEx φ fun y => tV (g (f y) j)) := fun F B σ H G s gm Q q =>
  ha F B σ H G s gm _ fun v1 H1 G1 s1 e1 a1 => hb F B σ H1 G1 s1 (gm.mono e1) _ fun v2 H2 G2 s2 e2 a2 => by
    obtain ⟨y, hy, a1⟩ := a1
    exact ⟨(f y : Int), j, a1, a2, q _ H2 G2 s2 (e1.trans e2) ⟨y, hy, rfl⟩⟩
theorem e_opCX {C : Int → Int → Prop} {g : Int → Int → V} {f : β → Nat} {i : Int} (ha : K89.E ta Γ M (tI i)) (hb : K89.E tb Γ M (tEx φ fun y => tn (f y))) (hc : ∀ y, φ y → C i (f y)) : K89.E (tOp (rI C g) ta tb) Γ M (tEx φ fun y => tV (g i (f y))) := fun F B σ H G s gm Q q =>
  ha F B σ H G s gm _ fun v1 H1 G1 s1 e1 a1 => hb F B σ H1 G1 s1 (gm.mono e1) _ fun v2 H2 G2 s2 e2 a2 => by
    obtain ⟨y, hy, a2⟩ := a2
    exact ⟨i, (f y : Int), a1, a2, hc y hy, q _ H2 G2 s2 (e1.trans e2) ⟨y, hy, rfl⟩⟩
/-- d[k] = v, a new key, v known by a property -/
theorem n_dputX {f : β → Ty} {j : Nat} {kvs : List (Key × Ty)} {k : Key} (hj : M[j]? = some (p, mD kvs)) (hv : K89.E tv Γ M (tEx φ f)) (hd : K89.E td Γ M (tR p)) (hy : K89.E ty Γ M (tV (kV k))) (hz : kvs.length < 100000) (hk : dLook k kvs = none)
    (kn' : ∀ y, φ y → N nx F B Γ (M.set j (p, mD (kvs ++ [(k, f y)])))) : N (sDPut td ty tv ⟨nx, rt, bk, ct⟩) F B Γ M := fun σ H G s g =>
  hv F B σ H G s g _ fun v1 H1 G1 s1 e1 a1 => hd F B σ H1 G1 s1 (g.mono e1) _ fun v2 H2 G2 s2 e2 a2 => hy F B σ H2 G2 s2 ((g.mono e1).mono e2) _ fun v3 H3 G3 s3 e3 a3 => by
    obtain ⟨y, hy', a1⟩ := a1
    have a2' : v2 = .ref p := a2
    have a3' : v3 = kV k := a3
    subst a2' a3'
    obtain ⟨_, _, o, h3, vs, h4, h5⟩ := s3.mm p _ (List.mem_of_getElem? hj)
    subst h4
    exact ⟨p, _, rfl, DPut.k h3 (sz6 (by rw [h5.length]; exact hz)), kn' y hy' _ _ G3 (s3.put hj ⟨_, rfl, atD_new h5 hk ((f y).mono e3 ((f y).mono e2 a1))⟩) (((g.mono e1).mono e2).mono e3)⟩
/-- return d, d ours, beside an argument that changes -/
theorem n_retDP {i : Nat} {p2 : Addr} {kvs : List (Key × Ty)} (hi : Γ[i]? = some (some (tR p))) (k : RetP F B p2 (tD kvs) m rt) : N (tFzS (tRet (tVar i)) ⟨nx, rt, bk, ct⟩) F B Γ [(p, mD kvs), (p2, m)] := fun σ H G s g => by
  obtain ⟨vs, h1, h2⟩ := frz_dict s
  obtain ⟨v, g1, g2⟩ := g.get hi
  have g2' : v = .ref p := g2
  subst g2'
  refine ⟨p, _, h1, trivial, fun od => ⟨_, g1, ?_⟩⟩
  obtain ⟨a1, a2, a3⟩ := h2 od
  obtain ⟨_, b2, o, b3, b4⟩ := a1.mm p2 m (List.mem_cons_self ..)
  exact k _ _ _ o a1.eb a1.er a1.fr b3 b2 b4 a3
end
def kvO (tup : Bool) : Nat → List (List Nat) → List (Key × Ty)
  | _, [] => []
  | h, k :: ks => (kn h, tSq tup (k.map tn)) :: kvO tup (h + 1) ks
theorem kvO_len {tup : Bool} : ∀ {ks : List (List Nat)} {h : Nat}, (kvO tup h ks).length = ks.length
  | [], _ => rfl
  | k :: ks, h => by rw [kvO, List.length_cons, kvO_len, List.length_cons]
theorem kvO_keys {tup : Bool} : ∀ {ks : List (List Nat)} {h : Nat}, (kvO tup h ks).map (·.1) = (List.range' h ks.length).map kn
  | [], _ => rfl
  | k :: ks, h => by
    rw [kvO, List.map_cons, kvO_keys, List.length_cons, List.range'_succ, List.map_cons]
theorem kvO_look {tup : Bool} : ∀ {ks : List (List Nat)} {o h : Nat}, h < ks.length → dLook (kn (o + h)) (kvO tup o ks) = some (tSq tup ((ks.getD h []).map tn))
  | [], _, _, hh => absurd hh (Nat.not_lt_zero _)
  | k :: ks, o, 0, _ => by
    show (if kn o = kn (o + 0) then _ else _) = _
    rw [if_pos (by rw [Nat.add_zero])]
    rfl
  | k :: ks, o, h + 1, hh => by
    show (if kn o = kn (o + (h + 1)) then _ else dLook _ (kvO tup (o + 1) ks)) = _
    rw [if_neg fun e => by have := kn_inj e; omega]
    have e : o + (h + 1) = (o + 1) + h := by omega
    rw [e, kvO_look (by simpa using hh)]
    rfl
theorem kvO_none {tup : Bool} {ks : List (List Nat)} {h : Nat} (hh : ks.length ≤ h) : dLook (kn h) (kvO tup 0 ks) = none := by
  refine dLook_no.mpr fun m => ?_
  rw [kvO_keys] at m
  obtain ⟨x, h1, h2⟩ := List.mem_map.mp m
  have := kn_inj h2
  have := List.mem_range'_1.mp h1
  omega
theorem kvO_snoc {tup : Bool} {k : List Nat} : ∀ {ks : List (List Nat)} {h : Nat}, kvO tup h (ks ++ [k]) = kvO tup h ks ++ [(kn (h + ks.length), tSq tup (k.map tn))]
  | [], h => rfl
  | q :: ks, h => by
    show (kn h, _) :: kvO tup (h + 1) (ks ++ [k]) = _
    rw [kvO_snoc]
    have e : h + 1 + ks.length = h + (q :: ks).length := by rw [List.length_cons]; omega
    rw [e]
    rfl
structure Kd (rs : List Row) (ke : List (List Nat)) : Prop where
  len : ke.length = rs.length
  ok : ∀ h, h < rs.length → KeOk (sz rs h) (ke.getD h [])
/-- the plain ones -/
def Kd.ka {rs : List Row} {ke : List (List Nat)} (d : Kd rs ke) : Ka rs where
  kv := kvO false 0 ke
  ke := ke
  tup := false
  hs := List.range' 0 ke.length
  len := by rw [kvO_len, d.len]
  keys := kvO_keys
  hlt := fun h m => by
    have := List.mem_range'_1.mp m
    have := d.len
    omega
  look := fun h hh => by
    have := kvO_look (tup := false) (ks := ke) (o := 0) (h := h) (by rw [d.len]; exact hh)
    rw [Nat.zero_add] at this
    exact this
  ok := d.ok
theorem keok_of {size : Nat} {ms ns : List Nat} (h1 : ms.Pairwise (· < ·)) (h2 : ∀ k, k ∈ ms ↔ k ∈ [0, size] ++ ns) (h3 : ∀ n ∈ ns, n ≤ size) : KeOk size ms := by
  have m0 : 0 ∈ ms := (h2 0).mpr (by simp)
  have ms' : size ∈ ms := (h2 size).mpr (by simp)
  have le : ∀ k ∈ ms, k ≤ size := fun k hk => by
    have := (h2 k).mp hk
    simp only [List.mem_append, List.mem_cons, List.not_mem_nil, or_false] at this
    rcases this with (rfl | rfl) | h
    · omega
    · omega
    · exact h3 k h
  refine ⟨h1, ?_, ?_⟩
  · obtain ⟨i, hi⟩ := List.getElem?_of_mem m0
    obtain ⟨hl, he⟩ := List.getElem?_eq_some_iff.mp hi
    by_cases z : i = 0
    · subst z
      exact hi
    · have := List.pairwise_iff_getElem.mp h1 0 i (by omega) hl (by omega)
      omega
  · obtain ⟨i, hi⟩ := List.getElem?_of_mem ms'
    obtain ⟨hl, he⟩ := List.getElem?_eq_some_iff.mp hi
    rw [List.getLast?_eq_getElem?]
    by_cases z : i = ms.length - 1
    · rw [← z]
      exact hi
    · have h4 := List.pairwise_iff_getElem.mp h1 i (ms.length - 1) hl (by omega) (by omega)
      have h5 := le ms[ms.length - 1] (List.getElem_mem _)
      omega
section
variable {P : Program} {w : World} {K : PySem.W.Frag} {mg : Str → Option Value}
theorem f__law_lists (T : En K mg) : Cal P w K mg "_law_lists" 1 ["_law_houses"] (spT (fun n : {n : Nat // n ≤ 4} => [tn n.1]) (fun n => tEx (fun LL : List (List Nat) => (∀ h, h < n.1 → [h] ∈ LL) ∧ (∀ L ∈ LL, ∀ h ∈ L, h < n.1) ∧ LL.length ≤ 16) fun LL => tL (LL.map fun L => tL (L.map tn)))) := by
  have S : FnScope ["_law_houses", "_law_found", "_law_house", "_law_some"] ["_law_houses"] d__law_lists.scope := ⟨rfl, rfl, rfl, by decide +kernel, rfl, by decide +kernel, by decide +kernel⟩
  refine Cal.mk' (n := 3) T 48 42 rfl rfl rfl rfl rfl S rfl (fun _ => rfl) (fun _ _ _ _ _ _ us hl => match us, hl with | [_], _ => rfl) fun base cdv A outer s H EX hr => ⟨_, (pss_cons (ps_set (i := 1) S.nd rfl (Or.inl rfl) (pe_lst (pa_cons (pe_lst pa_nil) pa_nil)))
      (pss_cons (ps_for PassesOwn.never rfl (pi_range1 rfl T.range (pa_cons (pv 0) pa_nil)) (pg_name (i := 2) S.nd rfl (Or.inr rfl)) (pss_one (ps_set (i := 1) S.nd rfl (Or.inl rfl) (pe_op op_cat (pv 1) (pe_lc (own := [("_law_some", 3)]) rfl S.nd (pi_list (pv 1)) (blkOk_by (own := [("_law_some", 3)]) (N := ["_law_houses", "_law_found", "_law_house", "_law_some"]) (sc := d__law_lists.scope) (by decide +kernel)) (fun _ _ _ _ _ => (pg_name (i := 3) S.nd rfl (Or.inl rfl))) (fun _ _ _ _ _ => pts_nil) (fun _ _ _ _ _ => (pe_op op_cat (pv 3) (pe_lst (pa_cons (pv 2) pa_nil)))))))))
      (pss_one (ps_ret (pv 1))))), ?_⟩
  rintro ⟨n, hn⟩ F B Q q
  refine n_seq (n_asg (t := tL (([[]] : List (List Nat)).map fun L => tL (L.map tn))) (EN.l (en_lst (ea_cons (EN.l (en_lst ea_nil (by decide))) ea_nil) (by show 1 ≤ 100000; decide))) ?_)
  refine n_seq (n_for (α := List (List Nat)) (fun i LL => [] ∈ LL ∧ (∀ h, h < i → [h] ∈ LL) ∧ (∀ L ∈ LL, (∀ h ∈ L, h < i) ∧ L.length ≤ i) ∧ LL.length ≤ 2 ^ i) (fun LL => [some (tn n), some (tL (LL.map fun L => tL (L.map tn))), none, none]) (fun _ => []) (src_range1 (ea_cons (e_var rfl) ea_nil) (Nat.le_trans hn (by decide))) [[]] ⟨by simp, (fun h z => absurd z (Nat.not_lt_zero _)), (fun L hL => by have := List.mem_singleton.mp hL; subst this; exact ⟨(fun h hh => by cases hh), Nat.le_refl _⟩), Nat.le_refl _⟩ rfl rfl (fun B' eB i t LL ht hL => ?_) fun LL hL => ?_)
  · have hi : i < n := by
      have := (List.getElem?_eq_some_iff.mp ht).1
      simpa using this
    rw [range_at ht]
    obtain ⟨k0, k1, k2, k3⟩ := hL
    have b16 : LL.length ≤ 16 := Nat.le_trans k3 (by
      have : i ≤ 3 := by omega
      calc 2 ^ i ≤ 2 ^ 3 := Nat.pow_le_pow_right (by decide) this
        _ ≤ 16 := by decide)
    refine tg_name (n_asg (t := tL ((LL ++ LL.map fun L => L ++ [i]).map fun L => tL (L.map tn))) ((EN.l (en_cat (us := LL.map fun L => tL ((L ++ [i]).map tn)) (e_var rfl) (EN.l (en_map (xs := LL) (f := fun L => tL (L.map tn)) (u := fun L => tL ((L ++ [i]).map tn)) (src_list (e_var rfl)) (by omega) fun L hm => ⟨_, tc_name (by decide), (EN.l (en_cat (us := [tn i]) (e_var rfl) (EN.l (en_lst (ea_cons (e_var rfl) ea_nil) (by show 1 ≤ 100000; decide))) ?_)).to ?_⟩)) ?_)).to ?_) (n_fg [2] (li (LL ++ LL.map fun L => L ++ [i]) ⟨?_, fun h hh => ?_, fun L hm => ?_, ?_⟩ rfl rfl)))
    · rw [List.length_map]
      have := (k2 L hm).2
      show _ + 1 ≤ 100000
      omega
    · rw [List.map_append]
      rfl
    · rw [List.length_map, List.length_map]
      omega
    · rw [List.map_append, List.map_map]
      rfl
    · exact List.mem_append_left _ k0
    · by_cases e : h = i
      · subst e
        exact List.mem_append_right _ (List.mem_map.mpr ⟨[], k0, rfl⟩)
      · exact List.mem_append_left _ (k1 h (by omega))
    · rcases List.mem_append.mp hm with hm | hm
      · exact ⟨fun h hh => by have := (k2 L hm).1 h hh; omega, by have := (k2 L hm).2; omega⟩
      · obtain ⟨L', h1, rfl⟩ := List.mem_map.mp hm
        refine ⟨fun h hh => ?_, ?_⟩
        · rcases List.mem_append.mp hh with hh | hh
          · have := (k2 L' h1).1 h hh
            omega
          · have := List.mem_singleton.mp hh
            omega
        · rw [List.length_append, List.length_singleton]
          have := (k2 L' h1).2
          omega
    · rw [List.length_append, List.length_map, Nat.pow_succ]
      omega
  · rw [List.length_map, List.length_range] at hL
    obtain ⟨k0, k1, k2, k3⟩ := hL
    refine n_ret (e_var rfl) fun v H G z1 z2 z3 z4 => q v H G z1 z2 z3 ⟨LL, ⟨k1, fun L hm => (k2 L hm).1, Nat.le_trans k3 ?_⟩, z4⟩
    calc 2 ^ n ≤ 2 ^ 4 := Nat.pow_le_pow_right (by decide) hn
      _ ≤ 16 := by decide
theorem f__law_kept (T : En K mg) : Cal P w K mg "_law_kept" 2 ["_law_pot_here", "_law_rows_here"] (spM (fun (x : {rs : List Row // Rs rs}) p => [tR p, tRows false x.1]) (fun _ => mPot) (fun _ => mPot) (fun x => tEx (Kd x.1) fun ke => tD (kvO false 0 ke))) := by
  have S : FnScope ["_law_pot_here", "_law_rows_here", "_law_found", "_law_house", "_law_row", "_law_some", "_law_state"] ["_law_pot_here", "_law_rows_here"] d__law_kept.scope := ⟨rfl, rfl, rfl, by decide +kernel, rfl, by decide +kernel, by decide +kernel⟩
  refine Cal.mkM' (n := 5) T 44 38 rfl rfl rfl rfl rfl S rfl (fun _ _ => rfl) (fun _ _ _ _ _ _ us hl => match us, hl with | [_, _], _ => rfl) fun base cdv A outer s H EX hr => ⟨_, (pss_cons (ps_set (i := 2) S.nd rfl (Or.inl rfl) pe_dnewK)
      (pss_cons (ps_for PassesOwn.never rfl (pi_enum rfl T.enumerate (pa_cons (pv 1) pa_nil)) (pg_tup rfl (pgs_cons (pg_name (i := 3) S.nd rfl (Or.inl rfl)) (pgs_cons (pg_name (i := 4) S.nd rfl (Or.inl rfl)) pgs_nil))) (pss_cons (ps_setLc (i := 5) (own := [("_law_state", 6)]) rfl S.nd rfl rfl (sw_true rfl rfl rfl (by decide +kernel)) (pi_range2 rfl T.range (pa_cons pe_int (pa_cons (pe_callB call_len rfl T.len bo_len (pa_cons (pv 4) pa_nil)) pa_nil))) (blkOk_by (own := [("_law_state", 6)]) (N := ["_law_pot_here", "_law_rows_here", "_law_found", "_law_house", "_law_row", "_law_some", "_law_state"]) (sc := d__law_kept.scope) (by decide +kernel)) (fun _ _ _ _ _ => (pg_name (i := 6) S.nd rfl (Or.inl rfl))) (fun _ _ _ _ _ => (pts_one (pt_cmpR op_eq (pe_f (f__law_draw T) hr rfl (pa_cons (pv 0) (pa_cons pe_int pa_nil))) pe_int (nomark _)))) (fun _ _ _ _ _ => (pv 6)))
      (pss_one (ps_dput (hu_of hr) (pv 2) (pv 3) (pe_callB (cr_sortedSet rfl) rfl T.sorted bo_sorted (pa_cons (pe_callTy (cr_setL rfl) rfl T.set bo_set (pa_cons (pe_op op_cat (pe_lst (pa_cons pe_int (pa_cons (pe_callB call_len rfl T.len bo_len (pa_cons (pv 4) pa_nil)) pa_nil))) (pv 5)) pa_nil)) pa_nil)) rfl))))
      (pss_one (ps_fz (ps_ret (pv 2)))))), ?_⟩
  rintro ⟨rs, R⟩ p F B Q q
  have n4 := R.n4
  refine n_seq (n_asgN en_dnew fun fp => ?_)
  refine n_seq (n_for (α := List (List Nat)) (fun i ke => ke.length = i ∧ ∀ h, h < i → KeOk (sz rs h) (ke.getD h [])) (fun _ => [some (tR p), some (tRows false rs), some (tR fp), none, none, none, none]) (fun ke => [(fp, mD (kvO false 0 ke)), (p, mPot)]) (src_enum (ts := rs.map (tRow false)) (ea_cons (e_var rfl) ea_nil)) [] ⟨rfl, fun h z => absurd z (Nat.not_lt_zero _)⟩ rfl rfl (fun B' eB i t ke ht hke => ?_) fun ke hke => ?_)
  · obtain ⟨u, hu, rfl⟩ := enum_at ht
    rw [List.getElem?_map] at hu
    cases er : rs[i]? with
    | none => rw [er] at hu; cases hu
    | some r =>
    rw [er] at hu
    have hu' := Option.some.inj hu
    subst hu'
    have r13 := R.row (List.mem_of_getElem? er)
    have hsz : sz rs i = r.length := by
      unfold sz
      rw [List.getD_eq_getElem?_getD, er] <;> rfl
    refine tg_2 (n_seq (n_asg (t := tEx (fun ns : List Nat => (∀ n ∈ ns, n ≤ r.length) ∧ ns.length ≤ 13) fun ns => tL (ns.map tn)) (E.imp (EN.lx (en_lc (fun j us => ∃ ns : List Nat, us = ns.map tn ∧ (∀ n ∈ ns, n ≤ r.length) ∧ ns.length ≤ j) (src_range2 (lo := 1) (n := r.length) (ea_cons e_c (ea_cons ((e_bi1 (e_var rfl) bi_len).to (by rw [List.length_map])) ea_nil)) (by omega) (by omega)) (by rw [List.length_map, List.length_range]; omega) ⟨[], rfl, (fun n hn => by cases hn), Nat.le_refl _⟩ fun j t us ht hus hl => ?_)) fun v G a => ?_) ?_))
    · have hj : j < r.length - 1 := by
        have := (List.getElem?_eq_some_iff.mp ht).1
        simpa using this
      rw [range_at (f := fun i => tn (1 + i)) ht]
      obtain ⟨ns, rfl, h1, h2⟩ := hus
      refine ⟨_, fun _ => True, tc_name (by decide), et_testx (e_eqX (f := fun d => d) (e_fS (j := 1) ⟨3, by decide, by decide⟩ rfl (ea_cons (e_var rfl) (ea_cons e_c ea_nil)))), fun _ => ⟨tn (1 + j), e_var rfl, ns ++ [1 + j], by rw [List.map_append] <;> rfl, fun n hn => ?_, by rw [List.length_append]; exact Nat.succ_le_succ h2⟩, fun _ => ⟨ns, rfl, h1, by omega⟩⟩
      rcases List.mem_append.mp hn with hn | hn
      · exact h1 n hn
      · have := List.mem_singleton.mp hn
        omega
    · obtain ⟨us, ⟨ns, rfl, h1, h2⟩, h3⟩ := a
      rw [List.length_map, List.length_range] at h2
      exact ⟨ns, ⟨h1, by omega⟩, h3⟩
    · refine n_ex (i := 5) rfl fun ns hns => ?_
      refine n_dputX (j := 0) (k := kn i) (f := fun ms : List Nat => tL (ms.map tn)) (φ := fun ms : List Nat => ms.Pairwise (· < ·) ∧ ∀ k, k ∈ ms ↔ k ∈ [0, r.length] ++ ns) rfl (EN.lx (en_bi1 (e_bi1 (t := tL (([0, r.length] ++ ns).map tn)) ((EN.l (en_cat (ts := [tn 0, tn r.length]) (EN.l (en_lst (ea_cons e_c (ea_cons ((e_bi1 (e_var rfl) bi_len).to (by rw [List.length_map])) ea_nil)) (by show 2 ≤ 100000; decide))) (e_var rfl) ?_)).to ?_) (bi_setL ?_)) (bin_sortedSet ?_))) (e_var rfl) (e_var rfl) ?_ ?_ fun ms hms => ?_
      · rw [List.length_map]
        have := hns.2
        show 2 + _ ≤ 100000
        omega
      · rw [List.map_append]
        rfl
      · rw [List.length_append]
        have := hns.2
        show 2 + _ ≤ 1000
        omega
      · rw [List.length_append]
        have := hns.2
        show 2 + _ < 64
        omega
      · rw [kvO_len, hke.1]
        have := (List.getElem?_eq_some_iff.mp er).1
        omega
      · exact kvO_none (by rw [hke.1]; exact Nat.le_refl _)
      · have ok := keok_of hms.1 hms.2 hns.1
        refine n_fg [3, 4, 5] (li (ke ++ [ms]) ⟨by rw [List.length_append, hke.1] <;> rfl, fun h hh => ?_⟩ rfl ?_)
        · rw [List.getD_eq_getElem?_getD]
          by_cases e : h = i
          · subst e
            rw [List.getElem?_append_right (by rw [hke.1]; exact Nat.le_refl _), hke.1, Nat.sub_self, hsz]
            exact ok
          · rw [List.getElem?_append_left (by rw [hke.1]; omega), ← List.getD_eq_getElem?_getD]
            exact hke.2 h (by omega)
        · rw [kvO_snoc, Nat.zero_add, hke.1]
          rfl
  · rw [enum_len, List.length_map] at hke
    refine n_retDP (i := 2) rfl fun v H G o z1 z2 z3 z4 z5 z6 z7 => q v H G o z1 z2 z3 z4 z5 z6 ⟨ke, ⟨hke.1, hke.2⟩, z7⟩
end
end K89
set_option Elab.async false
set_option linter.all false
set_option maxRecDepth 100000
set_option maxHeartbeats 4000000
/-! K89W13: the law's own looks: loose, heard, to write. -/
namespace K89
open PySem PySem.Spec PyProof.Rows L2
section
variable {F B : Hp} {Γ : Gam} {M : List Mut1} {ta tb te td ty tv : TE} {t t1 t2 : Ty} {ts us : List Ty} {K : PySem.W.Frag} {p : Addr} {m : MTy} {nx bk ct : L2.St → Hp → Prop} {rt : VK} {β : Type} {φ : β → Prop} {r : List V → Hp → VK → Prop}
theorem en_biX {f : β → Ty} {m : β → MTy} (h : K89.E te Γ M (tEx φ f)) (b : ∀ y, φ y → BiN r [f y] (m y)) : EN (tCB r (tCons te tNil)) Γ M (mEx φ m) := fun F B σ H G s g Q q => h F B σ H G s g _ fun v H1 G1 s1 e1 a1 => by
  obtain ⟨y, hy, a1⟩ := a1
  refine b y hy F B M H1 G1 [v] s1 ⟨a1, trivial⟩ Q fun p H2 G2 s2 e2 => q p H2 G2 ?_ (e1.trans e2)
  exact ⟨s2.er, s2.eb, s2.fr, fun a n z => by
    rcases List.mem_cons.mp z with z | z
    · cases z
      obtain ⟨k1, k2, o, k3, k4⟩ := s2.mm p _ (List.mem_cons_self ..)
      exact ⟨k1, k2, o, k3, y, hy, k4⟩
    · exact s2.mm a n (List.mem_cons_of_mem _ z), s2.nd⟩
theorem e_biX {f g : β → Ty} (h : K89.E te Γ M (tEx φ f)) (b : ∀ y, φ y → Bi r [f y] (g y)) : K89.E (tCB r (tCons te tNil)) Γ M (tEx φ g) := fun F B σ H G s gm Q q => h F B σ H G s gm _ fun v H1 G1 s1 e1 a1 => by
  obtain ⟨y, hy, a1⟩ := a1
  exact b y hy F B M H1 G1 [v] s1 ⟨a1, trivial⟩ Q fun v2 H2 G2 s2 e2 a2 => q v2 H2 G2 s2 (e1.trans e2) ⟨y, hy, a2⟩
theorem en_revX {f : β → List Ty} (h : K89.E te Γ M (tEx φ fun y => tL (f y))) : EN (tRevL K te) Γ M (mEx φ fun y => mL (f y).reverse) := fun F B σ H G s g Q q =>
  h F B σ H G s g _ fun v H1 G1 s1 e1 a1 => by
    obtain ⟨y, hy, a, vs, rfl, ea, av⟩ := a1
    exact ⟨a, vs, rfl, SqL.of (s1.er a _ ea), fun p hp => q p _ G1 (s1.newM hp ⟨y, hy, _, rfl, av.reverse⟩) e1⟩
theorem e_catT (ha : K89.E ta Γ M (tT ts)) (hb : K89.E tb Γ M (tT us)) (h1 : ts ≠ []) (h2 : us ≠ []) (h3 : ts.length + us.length ≤ 100000) : K89.E (tOp (rCatT K) ta tb) Γ M (tT (ts ++ us)) := fun F B σ H G s g Q q =>
  ha F B σ H G s g _ fun v1 H1 G1 s1 e1 a1 => hb F B σ H1 G1 s1 (g.mono e1) _ fun v2 H2 G2 s2 e2 a2 => by
    obtain ⟨a, vs, rfl, ea, av⟩ := a1
    obtain ⟨b, ws, rfl, eb, aw⟩ := a2
    have n1 : vs ≠ [] := fun e => by
      have := av.length
      rw [e] at this
      exact h1 (List.eq_nil_of_length_eq_zero this.symm)
    have n2 : ws ≠ [] := fun e => by
      have := aw.length
      rw [e] at this
      exact h2 (List.eq_nil_of_length_eq_zero this.symm)
    have := av.length
    have := aw.length
    refine ⟨a, b, vs, ws, rfl, rfl, SqT.of (s2.er a _ (e2 a _ ea)), SqT.of (s2.er b _ eb), n1, sz5 (by omega), (fun e => absurd e n2), fun _ p hp => ?_⟩
    obtain ⟨s3, e3⟩ := s2.new (o := .tup (vs ++ ws)) hp
    exact q _ _ _ s3 ((e1.trans e2).trans e3) ⟨p, _, rfl, upd_same, ((av.mono e2).mono e3).append (aw.mono e3)⟩
end
theorem merge_new : ∀ {bs as : List (Key × Ty)}, ((as ++ bs).map (·.1)).Nodup → mergeT as bs = as ++ bs
  | [], as, _ => (List.append_nil as).symm
  | b :: bs, as, h => by
    show mergeT (dPut b.1 b.2 as) bs = _
    have e : dLook b.1 as = none := dLook_no.mpr fun m => by
      rw [List.map_append, List.map_cons] at h
      exact (List.nodup_append.mp h).2.2 b.1 m b.1 (List.mem_cons_self ..) rfl
    rw [dPut_new e, merge_new (by rw [List.append_assoc]; exact h), List.append_assoc]
    rfl
structure Kz where
  rs : List Row
  ke : List (List Nat)
  n4 : rs.length ≤ 4
  d : Kd rs ke
/-- the kept states by other keys' order, as tuples -/
def lzK (ke : List (List Nat)) (h : Nat) : Key × Ty := (kn h, tT ((ke.getD h []).map tn))
theorem lz_look {ke : List (List Nat)} : ∀ {hs : List Nat} {h : Nat}, h ∈ hs → dLook (kn h) (hs.map (lzK ke)) = some (tT ((ke.getD h []).map tn))
  | [], _, m => by cases m
  | a :: hs, h, m => by
    show (if kn a = kn h then some (lzK ke a).2 else dLook (kn h) (hs.map (lzK ke))) = _
    by_cases e : a = h
    · subst e
      rw [if_pos rfl]
      rfl
    · rw [if_neg fun z => e (kn_inj z)]
      exact lz_look ((List.mem_cons.mp m).resolve_left fun z => e z.symm)
def lzKa {rs : List Row} {ke : List (List Nat)} (d : Kd rs ke) (ms : List Nat) (h : ms.Perm (List.range rs.length)) : Ka rs where
  kv := ms.reverse.map (lzK ke)
  ke := ke
  tup := true
  hs := ms.reverse
  len := by rw [List.length_map, List.length_reverse, h.length_eq, List.length_range]
  keys := by rw [List.map_map] <;> rfl
  hlt := fun x m => List.mem_range.mp (h.mem_iff.mp (List.mem_reverse.mp m))
  look := fun x hx => lz_look (List.mem_reverse.mpr (h.mem_iff.mpr (List.mem_range.mpr hx)))
  ok := d.ok
section
variable {P : Program} {w : World} {K : PySem.W.Frag} {mg : Str → Option Value}
theorem f__law_loose (T : En K mg) : Cal P w K mg "_law_loose" 1 ["_law_kept_here"] (spT (fun y : Kz => [tD (kvO false 0 y.ke)]) (fun y => tEx (fun k : Ka y.rs => k.ke = y.ke ∧ k.tup = true) fun k => k.t)) := by
  have S : FnScope ["_law_kept_here", "_law_house"] ["_law_kept_here"] d__law_loose.scope := ⟨rfl, rfl, rfl, by decide +kernel, rfl, by decide +kernel, by decide +kernel⟩
  refine Cal.mk' (n := 1) T 43 37 rfl rfl rfl rfl rfl S rfl (fun _ => rfl) (fun _ _ _ _ _ _ us hl => match us, hl with | [_], _ => rfl) fun base cdv A outer s H EX hr => ⟨_, (pss_one (ps_ret (pe_fz (pe_callTy (call_dcP rfl) rfl T.dict bo_dict (pa_cons (pe_lc (own := [("_law_house", 1)]) rfl S.nd (pi_list (pe_revL (pe_callB (call_sDI rfl) rfl T.sorted bo_sorted (pa_cons (pv 0) pa_nil)))) (blkOk_by (own := [("_law_house", 1)]) (N := ["_law_kept_here", "_law_house"]) (sc := d__law_loose.scope) (by decide +kernel)) (fun _ _ _ _ _ => (pg_name (i := 1) S.nd rfl (Or.inl rfl))) (fun _ _ _ _ _ => pts_nil) (fun _ _ _ _ _ => (pe_tup (pa_cons (pv 1) (pa_cons (pe_callTy (call_tOfK (K := K) rfl) rfl T.tuple bo_tuple (pa_cons (pe_dget (hu_of hr) (pv 0) (pv 1) (fun _ _ => rfl)) pa_nil)) pa_nil))))) pa_nil))))), ?_⟩
  rintro ⟨rs, ke, n4, d⟩ F B Q q
  have hl := d.len
  refine n_ret (e_fzx (f := fun ms : List Nat => mergeT [] (ms.reverse.map (lzK ke))) (φ := fun ms : List Nat => ms.Perm (List.range rs.length) ∧ ms.Pairwise (· ≤ ·)) (en_biX (f := fun ms : List Nat => tL (ms.reverse.map fun h => tT [tn h, tT ((ke.getD h []).map tn)])) (EN.lx (en_mapX (xs := fun ms : List Nat => ms.reverse) (f := tn) (u := fun h => tT [tn h, tT ((ke.getD h []).map tn)]) (srcx_list (E.imp (u := tEx (fun ms : List Nat => ms.Perm (List.range rs.length) ∧ ms.Pairwise (· ≤ ·)) fun ms => tL (ms.reverse.map tn)) (EN.lx (en_revX (EN.lx (en_bi1 (e_var rfl) (bin_sortedD (ns := List.range rs.length) ?_ ?_))))) fun v G a => ?_)) (fun ms hm => ?_) fun ms hm h hh => ⟨_, tc_name (by decide), ?_⟩)) fun ms hm => ?_)) fun v H G z1 z2 z3 z4 => ?_
  · rw [kvO_keys, hl, List.range_eq_range']
  · rw [List.length_range]
    omega
  · obtain ⟨ms, hm, a⟩ := a
    refine ⟨ms, hm, ?_⟩
    show (tL (ms.reverse.map tn)).at_ v G
    rw [List.map_reverse]
    exact a
  · rw [List.length_reverse, hm.1.length_eq, List.length_range]
    omega
  · have hx : h < rs.length := List.mem_range.mp (hm.1.mem_iff.mp (List.mem_reverse.mp hh))
    have lk := kvO_look (tup := false) (ks := ke) (o := 0) (h := h) (by omega)
    rw [Nat.zero_add] at lk
    exact e_tup2 (e_var rfl) (e_bi1 (e_dget (k := kn h) (e_var rfl) (e_var rfl) lk) bi_tuple)
  · have b := bin_dict (K := K) (bs := ms.reverse.map (lzK ke))
    rw [List.map_map] at b
    exact b
  · obtain ⟨ms, hm, a⟩ := z4
    refine q v H G z1 z2 z3 ⟨lzKa d ms hm.1, ⟨rfl, rfl⟩, ?_⟩
    have a' : (tD (mergeT [] (ms.reverse.map (lzK ke)))).at_ v G := a
    rw [merge_new] at a'
    · exact a'
    · rw [List.nil_append, List.map_map]
      refine List.pairwise_map.mpr ?_
      have nd : ms.reverse.Nodup := (List.reverse_perm ms).nodup_iff.mpr (hm.1.nodup_iff.mpr List.nodup_range)
      exact nd.imp fun ne e => ne (kn_inj e)
def Bef (z : Nat × Nat) (i j : Nat) : Prop := z.1 < i ∨ (z.1 = i ∧ z.2 < j)
structure SaidI (rs : List Row) (i j : Nat) (zs : List (Nat × Nat × Nat)) : Prop where
  ok : ∀ z ∈ zs, letAt true rs z.2.1 z.2.2 = some z.1 ∧ Bef z.2 i j
  all : ∀ h p l, Bef (h, p) i j → letAt true rs h p = some l → (l, h, p) ∈ zs
  nd : (zs.map (·.1)).Nodup
def hrK (c : Cr) : Key × Ty := (kn c.1, tT [tn c.2.1.1, tn c.2.1.2, tn c.2.2.1, tn c.2.2.2])
structure HearI (rs : List Row) (i j : Nat) (cs : List Cr) : Prop where
  ok : ∀ c ∈ cs, Car rs c ∧ Bef c.2.2 i j
  all : ∀ c, Bef c.2.2 i j → Car rs c → c ∈ cs
  nd : (cs.map (·.1)).Nodup
theorem letAt_ev {rs : List Row} {b : Bool} {h p : Nat} {e : Ev} (he : evAt rs h p = some e) : letAt b rs h p = e.let_ b := by
  unfold letAt
  rw [he] <;> rfl
theorem SaidI.len {rs : List Row} (R : Rs rs) {i j : Nat} {zs : List (Nat × Nat × Nat)} (s : SaidI rs i j zs) : zs.length ≤ 13 := by
  have h := sub_len (as := zs.map (·.1)) (bs := (pls true rs).map (·.1)) s.nd fun l hl => by
    obtain ⟨z, hz, rfl⟩ := List.mem_map.mp hl
    exact List.mem_map.mpr ⟨z, mem_pls.mpr (s.ok z hz).1, rfl⟩
  rw [List.length_map, List.length_map] at h
  have := R.pls true
  omega
theorem HearI.len {rs : List Row} (R : Rs rs) {i j : Nat} {cs : List Cr} (s : HearI rs i j cs) : cs.length ≤ 13 := by
  have h := sub_len (as := cs.map (·.1)) (bs := (pls true rs).map (·.1)) s.nd fun l hl => by
    obtain ⟨c, hc, rfl⟩ := List.mem_map.mp hl
    exact List.mem_map.mpr ⟨(c.1, c.2.1), mem_pls.mpr (s.ok c hc).1.1, rfl⟩
  rw [List.length_map, List.length_map] at h
  have := R.pls true
  omega
theorem f__law_heard_letters (T : En K mg) : Cal P w K mg "_law_heard_letters" 1 ["_law_rows_here"] (spT (fun x : {rs : List Row // Rs rs} => [tRows false x.1]) (fun x => tEx (Crs x.1) fun cs => tD (cs.map hrK))) := by
  have S : FnScope ["_law_rows_here", "_law_said", "_law_found", "_law_house", "_law_row", "_law_place", "_law_event"] ["_law_rows_here"] d__law_heard_letters.scope := ⟨rfl, rfl, rfl, by decide +kernel, rfl, by decide +kernel, by decide +kernel⟩
  refine Cal.mk' (n := 6) T 45 39 rfl rfl rfl rfl rfl S rfl (fun _ => rfl) (fun _ _ _ _ _ _ us hl => match us, hl with | [_], _ => rfl) fun base cdv A outer s H EX hr => ⟨_, (pss_cons (ps_par (i := 1) (j := 2) rfl S.nd rfl rfl (by decide) rfl rfl (pa_cons pe_dnewK (pa_cons pe_dnewK pa_nil)) rfl)
      (pss_cons (ps_for PassesOwn.never rfl (pi_enum rfl T.enumerate (pa_cons (pv 0) pa_nil)) (pg_tup rfl (pgs_cons (pg_name (i := 3) S.nd rfl (Or.inl rfl)) (pgs_cons (pg_name (i := 4) S.nd rfl (Or.inl rfl)) pgs_nil))) (pss_one (ps_for PassesOwn.never rfl (pi_enum rfl T.enumerate (pa_cons (pv 4) pa_nil)) (pg_tup rfl (pgs_cons (pg_name (i := 5) S.nd rfl (Or.inl rfl)) (pgs_cons (pg_name (i := 6) S.nd rfl (Or.inl rfl)) pgs_nil))) (pss_one (ps_if (pt_cmpR op_eq (pe_ix ix_tup (pv 6) pe_int (fun _ _ => rfl)) pe_str (nomark _)) (pss_one (ps_dput (hu_of hr) (pv 1) (pe_ix ix_tup (pv 6) pe_int (fun _ _ => rfl)) (pe_tup (pa_cons (pv 3) (pa_cons (pv 5) pa_nil))) rfl)) pss_nil)))))
      (pss_cons (ps_for PassesOwn.never rfl (pi_enum rfl T.enumerate (pa_cons (pv 0) pa_nil)) (pg_tup rfl (pgs_cons (pg_name (i := 3) S.nd rfl (Or.inl rfl)) (pgs_cons (pg_name (i := 4) S.nd rfl (Or.inl rfl)) pgs_nil))) (pss_one (ps_for PassesOwn.never rfl (pi_enum rfl T.enumerate (pa_cons (pv 4) pa_nil)) (pg_tup rfl (pgs_cons (pg_name (i := 5) S.nd rfl (Or.inl rfl)) (pgs_cons (pg_name (i := 6) S.nd rfl (Or.inl rfl)) pgs_nil))) (pss_one (ps_if (pt_cmpR op_eq (pe_ix ix_tup (pv 6) pe_int (fun _ _ => rfl)) pe_str (nomark _)) (pss_one (ps_dput (hu_of hr) (pv 2) (pe_ix ix_tup (pv 6) pe_int (fun _ _ => rfl)) (pe_op op_catT (pe_dget (hu_of hr) (pv 1) (pe_ix ix_tup (pv 6) pe_int (fun _ _ => rfl)) (fun _ _ => rfl)) (pe_tup (pa_cons (pv 3) (pa_cons (pv 5) pa_nil)))) rfl)) pss_nil)))))
      (pss_one (ps_fz (ps_ret (pv 2))))))), ?_⟩
  rintro ⟨rs, R⟩ F B Q q
  have atr {i : Nat} {r : Row} (er : rs[i]? = some r) {j : Nat} {e : Ev} (ee : r[j]? = some e) : evAt rs i j = some e := by
    unfold evAt
    rw [er]
    exact ee
  have endr {i j : Nat} {r : Row} (er : rs[i]? = some r) {b : Bool} {l p : Nat} (h : letAt b rs i p = some l) : p < r.length := by
    unfold letAt evAt at h
    rw [er] at h
    cases z : r[p]? with
    | none => exact absurd h (by show (Option.bind r[p]? (Ev.let_ b)) ≠ _; rw [z]; intro q; cases q)
    | some e => exact (List.getElem?_eq_some_iff.mp z).1
  refine n_seq (n_parNN en_dnew en_dnew fun sp fp => ?_)
  refine n_seq (n_for (α := List (Nat × Nat × Nat)) (fun i zs => SaidI rs i 0 zs) (fun _ => [some (tRows false rs), some (tR sp), some (tR fp), none, none, none, none]) (fun zs => [(fp, mD []), (sp, mD (zs.map eK))]) (src_enum (ts := rs.map (tRow false)) (ea_cons (e_var rfl) ea_nil)) [] ⟨(fun z hz => by cases hz), (fun h p l b => by unfold Bef at b; omega), List.nodup_nil⟩ rfl rfl (fun B' eB i t zs ht hzs => ?_) fun zs hzs => ?_)
  · obtain ⟨u, hu, rfl⟩ := enum_at ht
    rw [List.getElem?_map] at hu
    cases er : rs[i]? with
    | none => rw [er] at hu; cases hu
    | some r =>
    rw [er] at hu
    have hu' := Option.some.inj hu
    subst hu'
    refine tg_2 (n_for (α := List (Nat × Nat × Nat)) (fun j zs => SaidI rs i j zs) (fun _ => [some (tRows false rs), some (tR sp), some (tR fp), some (tn i), some (tRow false r), none, none]) (fun zs => [(fp, mD []), (sp, mD (zs.map eK))]) (src_enum (ts := r.map tEv) (ea_cons (e_var rfl) ea_nil)) zs hzs rfl rfl (fun B2 eB2 j t zs ht hzs => ?_) fun zs hzs => ?_)
    · obtain ⟨u, hu, rfl⟩ := enum_at ht
      rw [List.getElem?_map] at hu
      cases ee : r[j]? with
      | none => rw [ee] at hu; cases hu
      | some e =>
      rw [ee] at hu
      have hu' := Option.some.inj hu
      subst hu'
      have he := atr er ee
      refine tg_2 ?_
      by_cases hw : e.tag = "say"
      · obtain ⟨l0, g, t, rfl⟩ : ∃ l0 g t, e = .say l0 g t := by
          cases e with
          | do_ s => exact absurd hw t_ds
          | say l0 g t => exact ⟨l0, g, t, rfl⟩
          | hear l0 => exact absurd hw t_hs
        have hl : letAt true rs i j = some l0 := letAt_ev he
        have lnew : l0 ∉ zs.map (·.1) := fun m => by
          obtain ⟨z, hz, e2⟩ := List.mem_map.mp m
          obtain ⟨h1, h2⟩ := hzs.ok z hz
          rw [e2] at h1
          obtain ⟨h3, h4⟩ := R.good.u1 _ _ _ _ _ h1 hl
          unfold Bef at h2
          omega
        refine n_ifT (et_test (e_eqT (e_ixT (e_var rfl) e_c rfl) e_c rfl rfl)) (n_dput (j := 1) (k := kn l0) (t := tT [tn i, tn j]) rfl (e_tup2 (e_var rfl) (e_var rfl)) (e_var rfl) (e_ixT (e_var rfl) e_c rfl) ?_ (dLook_eK_none lnew) (n_fg [5, 6] (li (zs ++ [(l0, i, j)]) ⟨fun z hz => ?_, fun h p l b hh => ?_, ?_⟩ rfl ?_)))
        · rw [List.length_map]
          have := hzs.len R
          omega
        · rcases List.mem_append.mp hz with hz | hz
          · obtain ⟨h1, h2⟩ := hzs.ok z hz
            refine ⟨h1, ?_⟩
            unfold Bef at h2 ⊢
            omega
          · rw [List.mem_singleton.mp hz]
            exact ⟨hl, .inr ⟨rfl, Nat.lt_succ_self _⟩⟩
        · by_cases b2 : Bef (h, p) i j
          · exact List.mem_append_left _ (hzs.all h p l b2 hh)
          · have e3 : h = i ∧ p = j := by
              unfold Bef at b b2
              dsimp only at b b2
              omega
            obtain ⟨rfl, rfl⟩ := e3
            rw [hl] at hh
            cases hh
            exact List.mem_append_right _ (List.mem_singleton.mpr rfl)
        · rw [List.map_append]
          refine List.nodup_append.mpr ⟨hzs.nd, by simp, fun a ha b hb e2 => ?_⟩
          have hb' : b = l0 := by simpa using hb
          exact lnew (by rw [← hb', ← e2]; exact ha)
        · rw [List.map_append]
          rfl
      · refine n_ifF (et_test (e_eqF (e_ixT (e_var rfl) e_c (tag_at e)) e_c rfl (s_ne hw))) (n_next (n_fg [5, 6] (li zs ⟨fun z hz => ?_, fun h p l b hh => ?_, hzs.nd⟩ rfl rfl)))
        · obtain ⟨h1, h2⟩ := hzs.ok z hz
          refine ⟨h1, ?_⟩
          unfold Bef at h2 ⊢
          omega
        · by_cases b2 : Bef (h, p) i j
          · exact hzs.all h p l b2 hh
          · have e3 : h = i ∧ p = j := by
              unfold Bef at b b2
              dsimp only at b b2
              omega
            obtain ⟨rfl, rfl⟩ := e3
            rw [letAt_ev he] at hh
            cases e with
            | do_ s => cases hh
            | say l0 g t => exact absurd rfl hw
            | hear l0 => cases hh
    · rw [enum_len, List.length_map] at hzs
      refine n_fg [3, 4] (li zs ⟨fun z hz => ?_, fun h p l b hh => ?_, hzs.nd⟩ rfl rfl)
      · obtain ⟨h1, h2⟩ := hzs.ok z hz
        refine ⟨h1, ?_⟩
        unfold Bef at h2 ⊢
        omega
      · refine hzs.all h p l ?_ hh
        unfold Bef at b ⊢
        dsimp only at b ⊢
        by_cases e2 : h = i
        · subst e2
          exact .inr ⟨rfl, endr (j := 0) er hh⟩
        · omega
  · rw [enum_len, List.length_map] at hzs
    have done : ∀ h p l, letAt true rs h p = some l → dLook (kn l) (zs.map eK) = some (tT [tn h, tn p]) := fun h p l hl => by
      refine dLook_eK hzs.nd (hzs.all h p l (.inl ?_) hl)
      unfold letAt at hl
      cases z : evAt rs h p with
      | none => rw [z] at hl; cases hl
      | some e => exact (evAt_lt z).1
    refine n_seq (n_for (α := List Cr) (fun i cs => HearI rs i 0 cs) (fun _ => [some (tRows false rs), some (tR sp), some (tR fp), none, none, none, none]) (fun cs => [(fp, mD (cs.map hrK)), (sp, mD (zs.map eK))]) (src_enum (ts := rs.map (tRow false)) (ea_cons (e_var rfl) ea_nil)) [] ⟨(fun z hz => by cases hz), (fun c b => by unfold Bef at b; omega), List.nodup_nil⟩ rfl rfl (fun B' eB i t cs ht hcs => ?_) fun cs hcs => ?_)
    · obtain ⟨u, hu, rfl⟩ := enum_at ht
      rw [List.getElem?_map] at hu
      cases er : rs[i]? with
      | none => rw [er] at hu; cases hu
      | some r =>
      rw [er] at hu
      have hu' := Option.some.inj hu
      subst hu'
      refine tg_2 (n_for (α := List Cr) (fun j cs => HearI rs i j cs) (fun _ => [some (tRows false rs), some (tR sp), some (tR fp), some (tn i), some (tRow false r), none, none]) (fun cs => [(fp, mD (cs.map hrK)), (sp, mD (zs.map eK))]) (src_enum (ts := r.map tEv) (ea_cons (e_var rfl) ea_nil)) cs hcs rfl rfl (fun B2 eB2 j t cs ht hcs => ?_) fun cs hcs => ?_)
      · obtain ⟨u, hu, rfl⟩ := enum_at ht
        rw [List.getElem?_map] at hu
        cases ee : r[j]? with
        | none => rw [ee] at hu; cases hu
        | some e =>
        rw [ee] at hu
        have hu' := Option.some.inj hu
        subst hu'
        have he := atr er ee
        refine tg_2 ?_
        by_cases hw : e.tag = "hear"
        · obtain ⟨l0, rfl⟩ : ∃ l0, e = .hear l0 := by
            cases e with
            | do_ s => exact absurd hw t_dh
            | say l0 g t => exact absurd hw t_sh
            | hear l0 => exact ⟨l0, rfl⟩
          have hl : letAt false rs i j = some l0 := letAt_ev he
          obtain ⟨s, p', t, _, hs⟩ := say_of R he
          have car : Car rs (l0, (s, p'), (i, j)) := ⟨hs, hl⟩
          have lnew : l0 ∉ cs.map (·.1) := fun m => by
            obtain ⟨c, hc, e2⟩ := List.mem_map.mp m
            obtain ⟨h1, h2⟩ := hcs.ok c hc
            have e4 := Car.uniq R h1 car e2
            rw [e4] at h2
            unfold Bef at h2
            dsimp only at h2
            omega
          refine n_ifT (et_test (e_eqT (e_ixT (e_var rfl) e_c rfl) e_c rfl rfl)) (n_dput (j := 0) (k := kn l0) (t := tT [tn s, tn p', tn i, tn j]) rfl (e_catT (ts := [tn s, tn p']) (us := [tn i, tn j]) (e_dgetM (k := kn l0) (e_var rfl) (List.mem_cons_of_mem _ (List.mem_cons_self ..)) (e_ixT (e_var rfl) e_c rfl) (done s p' l0 hs)) (e_tup2 (e_var rfl) (e_var rfl)) (List.cons_ne_nil _ _) (List.cons_ne_nil _ _) (by show 4 ≤ 100000; decide)) (e_var rfl) (e_ixT (e_var rfl) e_c rfl) ?_ ?_ (n_fg [5, 6] (li (cs ++ [(l0, (s, p'), (i, j))]) ⟨fun z hz => ?_, fun c b hh => ?_, ?_⟩ rfl ?_)))
          · rw [List.length_map]
            have := hcs.len R
            omega
          · refine dLook_no.mpr fun m => lnew ?_
            rw [List.map_map] at m
            obtain ⟨c, hc, e2⟩ := List.mem_map.mp m
            exact List.mem_map.mpr ⟨c, hc, kn_inj e2⟩
          · rcases List.mem_append.mp hz with hz | hz
            · obtain ⟨h1, h2⟩ := hcs.ok z hz
              refine ⟨h1, ?_⟩
              unfold Bef at h2 ⊢
              omega
            · rw [List.mem_singleton.mp hz]
              exact ⟨car, .inr ⟨rfl, Nat.lt_succ_self _⟩⟩
          · by_cases b2 : Bef c.2.2 i j
            · exact List.mem_append_left _ (hcs.all c b2 hh)
            · have e3 : c.2.2.1 = i ∧ c.2.2.2 = j := by
                unfold Bef at b b2
                omega
              have e5 := hh.2
              rw [e3.1, e3.2, hl] at e5
              have e6 : c.1 = l0 := (Option.some.inj e5).symm
              exact List.mem_append_right _ (List.mem_singleton.mpr (Car.uniq R hh car e6))
          · rw [List.map_append]
            refine List.nodup_append.mpr ⟨hcs.nd, by simp, fun a ha b hb e2 => ?_⟩
            have hb' : b = l0 := by simpa using hb
            exact lnew (by rw [← hb', ← e2]; exact ha)
          · rw [List.map_append]
            rfl
        · refine n_ifF (et_test (e_eqF (e_ixT (e_var rfl) e_c (tag_at e)) e_c rfl (s_ne hw))) (n_next (n_fg [5, 6] (li cs ⟨fun z hz => ?_, fun c b hh => ?_, hcs.nd⟩ rfl rfl)))
          · obtain ⟨h1, h2⟩ := hcs.ok z hz
            refine ⟨h1, ?_⟩
            unfold Bef at h2 ⊢
            omega
          · by_cases b2 : Bef c.2.2 i j
            · exact hcs.all c b2 hh
            · have e3 : c.2.2.1 = i ∧ c.2.2.2 = j := by
                unfold Bef at b b2
                omega
              have e5 := hh.2
              rw [e3.1, e3.2, letAt_ev he] at e5
              cases e with
              | do_ s => cases e5
              | say l0 g t => cases e5
              | hear l0 => exact absurd rfl hw
      · rw [enum_len, List.length_map] at hcs
        refine n_fg [3, 4] (li cs ⟨fun z hz => ?_, fun c b hh => ?_, hcs.nd⟩ rfl rfl)
        · obtain ⟨h1, h2⟩ := hcs.ok z hz
          refine ⟨h1, ?_⟩
          unfold Bef at h2 ⊢
          omega
        · refine hcs.all c ?_ hh
          unfold Bef at b ⊢
          by_cases e2 : c.2.2.1 = i
          · have e5 := hh.2
            rw [e2] at e5
            exact .inr ⟨e2, endr (j := 0) er e5⟩
          · omega
    · rw [enum_len, List.length_map] at hcs
      refine n_retD (i := 2) (j := 0) rfl rfl fun v H G z1 z2 z3 z4 => q v H G z1 z2 z3 ⟨cs, ⟨fun c => ⟨fun m => (hcs.ok c m).1, fun h => hcs.all c (.inl h.lt.2) h⟩, hcs.nd⟩, z4⟩
end
end K89
set_option Elab.async false
set_option linter.all false
set_option maxRecDepth 100000
set_option maxHeartbeats 4000000
/-! K89W14: the law's own looks: what is left, what is to be written. -/
namespace K89
open PySem PySem.Spec PyProof.Rows L2
/-- set(xs) of a list of ints, its members counted -/
def rSetLD (w : World) (K : PySem.W.Frag) : List V → Hp → VK → Prop := fun vs H Q => ∃ (a : Addr) (zs : List Int), vs = [V.ref a] ∧ SqL K H a (zs.map V.int) ∧ zs.length ≤ 1000 ∧
  ∀ p n, H p = none → (∃ ks : List Int, ks.Nodup ∧ (∀ k ∈ ks, k ∈ zs) ∧ ks.length = n) → Q (.ref p) (upd H p (SetO w p (fun j => decide (j ∈ zs)) n))
theorem cr_setLD {X : Cx} (hc : X.calm = true) : CallR X (.type "set") (rSetLD X.w X.K) := by
  intro pins s σ H vs us Q I r h
  obtain ⟨a, zs, rfl, hq, hz, q⟩ := h
  obtain ⟨its, rv, pl, _⟩ := I.list hq
  rw [Vals.ref1 r]
  have hn : H s.heap.objs.size = none := I.hok.fresh (Nat.le_refl _)
  refine set_of_list zs (I.ok.hd hc) pl.isList rv.ints (by unfold scanBound; omega) fun hp tk n hS hle kp => ?_
  refine ⟨.ref s.heap.objs.size, _, I.laid (t' := tk) kp (Nat.le_refl _) (setO_new hS), rfl, q _ n hn ?_⟩
  obtain ⟨o, es, ep, t, ho, hex, hd, g, nd, hm, hb, hf, hn2, hr, hl⟩ := hS
  refine ⟨es.toList.map L2.keyOf, nd, fun k hk => of_decide_eq_true ((hm k).mpr hk), ?_⟩
  rw [List.length_map, Array.length_toList]
  exact hn2
section
variable {w : World} {K : PySem.W.Frag}
def tSetD (w : World) (ns : List Nat) : Ty := ⟨fun v G => ∃ a n, v = .ref a ∧ n < 64 ∧ G a = some (SetO w a (fun j => decide (j ∈ ns.map fun n => ((n : Nat) : Int))) n), fun e h => let ⟨a, n, e1, e2, e3⟩ := h; ⟨a, n, e1, e2, e _ _ e3⟩⟩
theorem bi_setLD {ns : List Nat} (hl : ns.length ≤ 1000) (hd : ∀ ks : List Nat, ks.Nodup → (∀ k ∈ ks, k ∈ ns) → ks.length < 64) : Bi (rSetLD w K) [tL (ns.map tn)] (tSetD w ns) := fun F B M H G vs s a Q q => by
  obtain ⟨v, rfl, b, ws, rfl, eb, aw⟩ := at1 a
  rw [nats_at aw] at eb
  refine ⟨b, _, rfl, SqL.of (s.er b _ eb), by rw [List.length_map]; exact hl, fun p n hp hn => ?_⟩
  obtain ⟨s2, e2⟩ := s.new (o := SetO w p (fun j => decide (j ∈ ns.map fun n => ((n : Nat) : Int))) n) hp
  refine q _ _ _ s2 e2 ⟨p, n, rfl, ?_, upd_same⟩
  obtain ⟨ks, k1, k2, k3⟩ := hn
  obtain ⟨ks', e⟩ := ints_nats (zs := ks) fun z hz => by
    obtain ⟨m, _, rfl⟩ := List.mem_map.mp (k2 z hz)
    omega
  subst e
  rw [← k3, List.length_map]
  refine hd ks' ?_ fun k hk => ?_
  · exact (List.pairwise_map.mp k1).imp fun ne e => ne (by rw [e])
  · obtain ⟨m, h1, h2⟩ := List.mem_map.mp (k2 (k : Int) (List.mem_map.mpr ⟨k, hk, rfl⟩))
    have : m = k := by omega
    exact this ▸ h1
theorem bin_sortedSetD {ns : List Nat} : BiN (rSortedSet w) [tSetD w ns] (mEx (fun ms : List Nat => ms.Pairwise (· < ·) ∧ ∀ k, k ∈ ms ↔ k ∈ ns) fun ms => mL (ms.map tn)) := fun F B M H G vs s a Q q => by
  obtain ⟨v, rfl, b, n, rfl, hn, eb⟩ := at1 a
  refine ⟨b, _, n, rfl, s.er b _ eb, hn, fun zs p hs hm hlen hp => ?_⟩
  obtain ⟨ms, e⟩ := ints_nats (zs := zs) fun z hz => by
    obtain ⟨n, _, rfl⟩ := List.mem_map.mp (of_decide_eq_true ((hm z).mp hz))
    omega
  subst e
  refine q p _ G (s.newM hp ⟨ms, ⟨?_, fun k => ?_⟩, _, rfl, at_nats ms⟩) (Er.refl G)
  · rw [List.pairwise_map] at hs
    exact hs.imp fun h => by omega
  · have h0 := hm ((k : Nat) : Int)
    have mem : ∀ l : List Nat, ((k : Nat) : Int) ∈ (l.map fun n => ((n : Nat) : Int)) ↔ k ∈ l := fun l => by
      constructor
      · intro h
        obtain ⟨n, h1, h2⟩ := List.mem_map.mp h
        have : n = k := by omega
        exact this ▸ h1
      · exact fun h => List.mem_map.mpr ⟨k, h, rfl⟩
    rw [mem, decide_eq_true_iff, mem] at h0
    exact h0
end
structure Ly where
  rs : List Row
  R : Rs rs
  ke : List (List Nat)
  d : Kd rs ke
  fs : List Nat
  ws : List Nat
abbrev Ly.as (y : Ly) : List Ty := [tRows false y.rs, tD (kvO false 0 y.ke), tL (y.fs.map tn), tL (y.ws.map tn)]
structure LawL (rs : List Row) (ke fs ws : List Nat) (h : Nat) (zs : List Nat) : Prop where
  zero : 0 ∈ zs
  re : ∀ z ∈ zs, Reach rs ke fs ws h z
  base : ∀ b ∈ ke, Base rs fs h b → b ∈ zs
  step : ∀ z ∈ zs, z < sz rs h → ¬ Stop rs ws h z → z + 1 ∈ zs
  len : zs.length ≤ 14
theorem kvO_at {rs : List Row} {ke : List (List Nat)} (d : Kd rs ke) {h : Nat} (hh : h < rs.length) : dLook (kn h) (kvO false 0 ke) = some (tL ((ke.getD h []).map tn)) := by
  have lk := kvO_look (tup := false) (ks := ke) (o := 0) (h := h) (by rw [d.len]; exact hh)
  rw [Nat.zero_add] at lk
  exact lk
theorem drop_base {size : Nat} {k : List Nat} (o : KeOk size k) : ∀ b, b ∈ k.take (k.length - 1) ↔ b ∈ k ∧ b < size := by
  have h0 := List.length_pos_iff.mpr o.ne
  have hl := o.lst
  rw [List.getLast?_eq_getElem?] at hl
  obtain ⟨h3, h4⟩ := List.getElem?_eq_some_iff.mp hl
  intro b
  constructor
  · intro m
    obtain ⟨i, hi⟩ := List.getElem?_of_mem m
    rw [List.getElem?_take] at hi
    by_cases z : i < k.length - 1
    · rw [if_pos z] at hi
      obtain ⟨h1, h2⟩ := List.getElem?_eq_some_iff.mp hi
      have := List.pairwise_iff_getElem.mp o.inc i (k.length - 1) h1 h3 (by omega)
      exact ⟨List.mem_of_getElem? hi, by omega⟩
    · rw [if_neg z] at hi
      cases hi
  · rintro ⟨m, lt⟩
    obtain ⟨i, hi⟩ := List.getElem?_of_mem m
    obtain ⟨h1, h2⟩ := List.getElem?_eq_some_iff.mp hi
    have ne : i ≠ k.length - 1 := fun e => by
      subst e
      omega
    refine List.mem_of_getElem? (i := i) ?_
    rw [List.getElem?_take, if_pos (by omega)]
    exact hi
theorem cut_neg1 {α : Type} {xs : List α} (h : 0 < xs.length) : cutA xs none (some (-1)) = xs.take (xs.length - 1) := by
  have e : HT.sIx xs.length xs.length (some (-1)) = xs.length - 1 := by
    show (if (-1 : Int) < 0 then ((-1 : Int) + (xs.length : Int)).toNat else min (-1 : Int).toNat xs.length) = _
    rw [if_pos (by decide)]
    omega
  show (xs.drop (HT.sIx xs.length 0 none)).take (HT.sIx xs.length xs.length (some (-1)) - HT.sIx xs.length 0 none) = _
  rw [e]
  rfl
def lvJ (rs : List Row) (ke fs ws : List Nat) (h : Nat) (bs : List Nat) : Nat → List Nat → Prop := fun i zs => (∀ b ∈ bs, b ∈ zs) ∧ (∀ z ∈ zs, Reach rs ke fs ws h z) ∧ zs.length ≤ 14 + 13 * i ∧ ∀ j b z, j < i → bs[j]? = some b → b ≤ z → (∀ p, b ≤ p → p < z → ¬ Stop rs ws h p) → z ≤ sz rs h → z ∈ zs
def lvJ2 (rs : List Row) (ke fs ws : List Nat) (h : Nat) (zs : List Nat) (b i : Nat) : Nat → List Nat → Prop := fun j zs2 => (∀ x ∈ zs, x ∈ zs2) ∧ (∀ z ∈ zs2, Reach rs ke fs ws h z) ∧ zs2.length ≤ 14 + 13 * i + j ∧ (∀ p, b ≤ p → p < b + j → ¬ Stop rs ws h p) ∧ ∀ z, b ≤ z → z ≤ b + j → z ∈ zs2
section
variable {P : Program} {w : World} {K : PySem.W.Frag} {mg : Str → Option Value}
theorem f__law_left (T : En K mg) : Cal P w K mg "_law_left" 1 ["_law_rows_here", "_law_kept_here", "_law_fallen", "_law_written", "_law_house"] (spT (fun y : {y : Ly × Nat // y.2 < y.1.rs.length} => y.1.1.as ++ [tn y.1.2]) (fun y => tEx (LawL y.1.1.rs (y.1.1.ke.getD y.1.2 []) y.1.1.fs y.1.1.ws y.1.2) fun zs => tL (zs.map tn))) := by
  have S : FnScope ["_law_rows_here", "_law_kept_here", "_law_fallen", "_law_written", "_law_house", "_law_row", "_law_found", "_law_state", "_law_place"] ["_law_rows_here", "_law_kept_here", "_law_fallen", "_law_written", "_law_house"] d__law_left.scope := ⟨rfl, rfl, rfl, by decide +kernel, rfl, by decide +kernel, by decide +kernel⟩
  refine Cal.mk' (n := 4) T 46 40 rfl rfl rfl rfl rfl S rfl (fun _ => rfl) (fun _ _ _ _ _ _ us hl => match us, hl with | [_, _, _, _, _], _ => rfl) fun base cdv A outer s H EX hr => ⟨_, (pss_cons (ps_set (i := 5) S.nd rfl (Or.inl rfl) (pe_ix ix_list (pv 0) (pv 4) (fun _ _ => rfl)))
      (pss_cons (ps_set (i := 6) S.nd rfl (Or.inl rfl) (pe_ifExp (PW.pt (pw_and (pt_cmpR op_in_seq (pv 4) (pv 2) rfl) (pw_and1 (pt_cmpR op_gt (pe_callB call_len rfl T.len bo_len (pa_cons (pe_dget (hu_of hr) (pv 1) (pv 4) (fun _ _ => rfl)) pa_nil)) pe_int (nomark _))))) (pe_slice sl_list (pe_dget (hu_of hr) (pv 1) (pv 4) (fun _ _ => rfl)) po_none (po_some (pe_un un_neg pe_int))) (pe_callTy call_lOf rfl T.list bo_list (pa_cons (pe_dget (hu_of hr) (pv 1) (pv 4) (fun _ _ => rfl)) pa_nil))))
      (pss_cons (ps_for PassesOwn.never rfl (pi_list (pe_callTy call_lOf rfl T.list bo_list (pa_cons (pv 6) pa_nil))) (pg_name (i := 7) S.nd rfl (Or.inl rfl)) (pss_one (ps_for PassesOwn.never rfl (pi_range2 rfl T.range (pa_cons (pv 7) (pa_cons (pe_callB call_len rfl T.len bo_len (pa_cons (pv 5) pa_nil)) pa_nil))) (pg_name (i := 8) S.nd rfl (Or.inl rfl)) (pss_cons (ps_if (PW.pt (pw_and (pt_cmpR op_eq (pe_ix ix_tup (pe_ix ix_list (pv 5) (pv 8) (fun _ _ => rfl)) pe_int (fun _ _ => rfl)) pe_str (nomark _)) (pw_and1 (pt_cmpR op_notIn_seq (pe_ix ix_tup (pe_ix ix_list (pv 5) (pv 8) (fun _ _ => rfl)) pe_int (fun _ _ => rfl)) (pv 3) rfl)))) (pss_one ps_break) pss_nil)
      (pss_one (ps_expr (pe_bm PySem.F.plainAttrs_list PySem.F.slot_list_append PySem.F.type_list_append mt_append (pv 6) (pa_cons (pe_op op_add (pv 8) pe_int) pa_nil))))))))
      (pss_one (ps_ret (pe_callB (cr_sortedSet rfl) rfl T.sorted bo_sorted (pa_cons (pe_callTy (cr_setLD rfl) rfl T.set bo_set (pa_cons (pv 6) pa_nil)) pa_nil))))))), ?_⟩
  rintro ⟨⟨⟨rs, R, ke, d, fs, ws⟩, h⟩, hh⟩ F B Q q
  have hh : h < rs.length := hh
  have ok := d.ok h hh
  have s13 := R.sz h
  have lk := kvO_at d hh
  have h0 := List.length_pos_iff.mpr ok.ne
  have kl : (ke.getD h []).length ≤ 14 := by have := ok.len; omega
  obtain ⟨r, hr'⟩ : ∃ r, rs[h]? = some r := ⟨_, List.getElem?_eq_getElem hh⟩
  have hsz : sz rs h = r.length := by
    unfold sz
    rw [List.getD_eq_getElem?_getD, hr'] <;> rfl
  refine n_seq (n_asg (e_ixL (e_var rfl) (e_var rfl) (rows_at (tup := false) hr')) ?_)
  obtain ⟨bs, hb, eb⟩ : ∃ bs : List Nat, (∀ b, b ∈ bs ↔ b ∈ ke.getD h [] ∧ Base rs fs h b) ∧ bs = if h ∈ fs ∧ 1 < (ke.getD h []).length then (ke.getD h []).take ((ke.getD h []).length - 1) else ke.getD h [] := by
    refine ⟨_, fun b => ?_, rfl⟩
    by_cases z : h ∈ fs ∧ 1 < (ke.getD h []).length
    · rw [if_pos z, drop_base ok]
      unfold Base
      constructor
      · exact fun a => ⟨a.1, .inr (.inl a.2)⟩
      · rintro ⟨a1, a2 | a2 | a2⟩
        · exact absurd z.1 a2
        · exact ⟨a1, a2⟩
        · have l := ok.len
          rw [a2] at l
          omega
    · rw [if_neg z]
      refine ⟨fun a => ⟨a, ?_⟩, fun a => a.1⟩
      unfold Base
      by_cases y : h ∈ fs
      · have l1 : (ke.getD h []).length = 1 := by
          by_cases w : 1 < (ke.getD h []).length
          · exact absurd ⟨y, w⟩ z
          · omega
        have e1 := ok.hd
        have e2 := ok.lst
        rw [List.getLast?_eq_getElem?, l1] at e2
        rw [e1] at e2
        have : 0 = sz rs h := Option.some.inj e2
        omega
      · exact .inl y
  refine n_seq (n_asgN (m := mL (bs.map tn)) (en_if (et_and (b := decide (h ∈ fs)) (c := decide (1 < (ke.getD h []).length)) (et_test (e_inN (tup := false) (neg := false) (e_var rfl) (e_var rfl))) fun _ => et_test ((e_op0 (e_bi1 (e_dget (k := kn h) (e_var rfl) (e_var rfl) lk) bi_len) e_c).to (congrArg tB (decide_eq_decide.mpr (by rw [List.length_map]; omega))))) (fun z => ?_) fun z => ?_) fun fp => ?_)
  · have z' := Bool.and_eq_true_iff.mp z.symm
    have zz : h ∈ fs ∧ 1 < (ke.getD h []).length := ⟨of_decide_eq_true z'.1, of_decide_eq_true z'.2⟩
    rw [eb, if_pos zz]
    have e := en_slL (K := K) (lo := none) (hi := some (-1)) (Γ := [some (tRows false rs), some (tD (kvO false 0 ke)), some (tL (fs.map tn)), some (tL (ws.map tn)), some (tn h), some (tRow false r), none, none, none]) (M := []) (e_dget (k := kn h) (e_var (i := 1) rfl) (e_var (i := 4) rfl) lk) eo_none (eo_some (e_neg (e_c (v := .int 1))))
    rw [cut_neg1 (by rw [List.length_map]; omega), List.length_map, ← List.map_take] at e
    exact e
  · have zz : ¬ (h ∈ fs ∧ 1 < (ke.getD h []).length) := fun a => by
      rw [decide_eq_true a.1, decide_eq_true a.2] at z
      cases z
    rw [eb, if_neg zz]
    exact en_bi1 (e_dget (k := kn h) (e_var rfl) (e_var rfl) lk) (bin_list (tup := false))
  have bl : bs.length ≤ 14 := by
    rw [eb]
    split
    · rw [List.length_take]
      omega
    · exact kl
  have bsz : ∀ b ∈ bs, b ≤ sz rs h := fun b m => ok.le ((hb b).mp m).1
  have rb : ∀ b ∈ bs, Reach rs (ke.getD h []) fs ws h b := fun b m => ⟨bsz b m, b, ((hb b).mp m).1, ((hb b).mp m).2, Nat.le_refl _, fun p h1 h2 => absurd h1 (by omega)⟩
  refine n_seq (n_for (ts := bs.map tn) (α := List Nat) (lvJ rs (ke.getD h []) fs ws h bs) (fun _ => [some (tRows false rs), some (tD (kvO false 0 ke)), some (tL (fs.map tn)), some (tL (ws.map tn)), some (tn h), some (tRow false r), some (tR fp), none, none]) (fun zs => [(fp, mL (zs.map tn))])
    (src_list (EN.l (EN.focusL (i := 6) (j := 0) rfl rfl (en_bi1 (e_var rfl) (bin_list (tup := false))) (flat_mL fun t ht => by
      obtain ⟨n, _, rfl⟩ := List.mem_map.mp ht
      exact flat_V)))) bs ⟨fun b m => m, rb, by omega, fun j b z hj => absurd hj (Nat.not_lt_zero _)⟩ rfl rfl (fun B' eB i t zs ht hz => ?_) fun zs hz => ?_)
  · obtain ⟨k1, k2, k3, k4⟩ := hz
    rw [List.getElem?_map] at ht
    cases ebi : bs[i]? with
    | none => rw [ebi] at ht; cases ht
    | some b =>
    rw [ebi] at ht
    have ht' := Option.some.inj ht
    subst ht'
    have mb := List.mem_of_getElem? ebi
    have hbs := bsz b mb
    have hi : i < bs.length := (List.getElem?_eq_some_iff.mp ebi).1
    have kb := (hb b).mp mb
    have nxt : ∀ zs2 : List Nat, (∀ x ∈ zs, x ∈ zs2) → (∀ z ∈ zs2, Reach rs (ke.getD h []) fs ws h z) → zs2.length ≤ 14 + 13 * (i + 1) → (∀ z, b ≤ z → (∀ p, b ≤ p → p < z → ¬ Stop rs ws h p) → z ≤ sz rs h → z ∈ zs2) → lvJ rs (ke.getD h []) fs ws h bs (i + 1) zs2 := fun zs2 g1 g2 g3 g4 => ⟨fun x m => g1 x (k1 x m), g2, g3, fun j b' z hj hbj => by
      by_cases e : j = i
      · subst e
        rw [ebi] at hbj
        cases hbj
        exact g4 z
      · exact fun a1 a2 a3 => g1 z (k4 j b' z (by omega) hbj a1 a2 a3)⟩
    refine tg_name (n_for (α := List Nat) (lvJ2 rs (ke.getD h []) fs ws h zs b i) (fun _ => [some (tRows false rs), some (tD (kvO false 0 ke)), some (tL (fs.map tn)), some (tL (ws.map tn)), some (tn h), some (tRow false r), some (tR fp), some (tn b), none]) (fun zs2 => [(fp, mL (zs2.map tn))]) (src_range2 (lo := b) (n := sz rs h) (ea_cons (e_var rfl) (ea_cons ((e_bi1 (e_var rfl) bi_len).to (by rw [List.length_map, hsz])) ea_nil)) (by omega) (by omega)) zs ⟨fun x m => m, k2, by omega, (fun p h1 h2 => absurd h1 (by omega)), fun z h1 h2 => (show b = z by omega) ▸ k1 b mb⟩ rfl rfl (fun B2 eB2 j t zs2 ht hz2 => ?_) fun zs2 hz2 => ?_)
    · have hj : j < sz rs h - b := by
        have := (List.getElem?_eq_some_iff.mp ht).1
        simpa using this
      rw [range_at (f := fun i => tn (b + i)) ht]
      obtain ⟨g1, g2, g3, g4, g5⟩ := hz2
      obtain ⟨e, he⟩ := evAt_some (rs := rs) (h := h) (p := b + j) (by omega)
      have hp : r[b + j]? = some e := by
        unfold evAt at he
        rw [hr'] at he
        exact he
      have tst : ET (tAnd (tTest (tOp rEq (tOp (rIxT K) (tOp (rIxL K) (tVar 5) (tVar 8)) (tC (.int 0))) (tC (.str "hear")))) (tTest (tOp (rIn K true) (tOp (rIxT K) (tOp (rIxL K) (tVar 5) (tVar 8)) (tC (.int 1))) (tVar 3)))) [some (tRows false rs), some (tD (kvO false 0 ke)), some (tL (fs.map tn)), some (tL (ws.map tn)), some (tn h), some (tRow false r), some (tR fp), some (tn b), some (tn (b + j))] [(fp, mL (zs2.map tn))] (fun c => c = true ↔ Stop rs ws h (b + j)) := by
        by_cases hw : e.tag = "hear"
        · obtain ⟨l, rfl⟩ : ∃ l, e = .hear l := by
            cases e with
            | do_ s => exact absurd hw t_dh
            | say l g t => exact absurd hw t_sh
            | hear l => exact ⟨l, rfl⟩
          refine ET.imp (et_and (b := true) (c := !decide (l ∈ ws)) (et_test (e_eqT (e_ixT (i := 0) (e_ixL (e_var rfl) (e_var rfl) (row_at hp)) e_c rfl) e_c rfl rfl)) fun _ => et_test (e_inN (tup := false) (neg := true) (e_ixT (i := 1) (e_ixL (e_var rfl) (e_var rfl) (row_at hp)) e_c rfl) (e_var rfl))) fun c hc => ?_
          rw [hc, Bool.true_and]
          constructor
          · intro z
            exact ⟨l, he, by simpa using z⟩
          · rintro ⟨l', h1, h2⟩
            rw [he] at h1
            cases h1
            simpa using h2
        · refine ET.imp (et_and (b := false) (c := true) (et_test (e_eqF (e_ixT (i := 0) (e_ixL (e_var rfl) (e_var rfl) (row_at hp)) e_c (tag_at e)) e_c rfl (s_ne hw))) fun z => nomatch z) fun c hc => ?_
          rw [hc, Bool.false_and]
          constructor
          · intro z
            cases z
          · rintro ⟨l', h1, h2⟩
            rw [he] at h1
            cases h1
            exact absurd rfl hw
      refine tg_name (n_seq (n_if tst (fun hs => ?_) fun hs => n_next ?_))
      · obtain ⟨l, h1, h2⟩ := hs.mp rfl
        refine n_brk (N.base (n_fg [7, 8] (li zs2 (nxt zs2 g1 g2 (by omega) fun y h3 h4 h5 => g5 y h3 ?_) rfl rfl)) eB2)
        by_cases le : y ≤ b + j
        · exact le
        · exact absurd ⟨l, h1, h2⟩ (h4 (b + j) (by omega) (by omega))
      · have ns : ¬ Stop rs ws h (b + j) := fun z => absurd (hs.mpr z) (by decide)
        have r1 : Reach rs (ke.getD h []) fs ws h (b + j + 1) := ⟨by omega, b, kb.1, kb.2, by omega, fun p h1 h2 => by
          by_cases e : p = b + j
          · rw [e]
            exact ns
          · exact g4 p h1 (by omega)⟩
        refine n_app (j := 0) (t := tn (b + j + 1)) rfl (e_var rfl) ((e_op0 (i := ((b + j : Nat) : Int)) (j := 1) (e_var rfl) e_c).to (congrArg tI (show ((b + j : Nat) : Int) + 1 = ((b + j + 1 : Nat) : Int) by omega))) (by rw [List.length_map]; omega) (n_fg [8] (li (zs2 ++ [b + j + 1]) ⟨fun x m => List.mem_append_left _ (g1 x m), fun z m => ?_, ?_, fun p h1 h2 => ?_, fun z h1 h2 => ?_⟩ rfl ?_))
        · rcases List.mem_append.mp m with m | m
          · exact g2 z m
          · rw [List.mem_singleton.mp m]
            exact r1
        · rw [List.length_append, List.length_singleton]
          omega
        · by_cases e : p = b + j
          · rw [e]
            exact ns
          · exact g4 p h1 (by omega)
        · by_cases e : z = b + j + 1
          · exact List.mem_append_right _ (List.mem_singleton.mpr e)
          · exact List.mem_append_left _ (g5 z h1 (by omega))
        · rw [List.map_append]
          rfl
    · rw [List.length_map, List.length_range] at hz2
      obtain ⟨g1, g2, g3, g4, g5⟩ := hz2
      exact n_fg [7, 8] (li zs2 (nxt zs2 g1 g2 (by omega) fun y h1 h2 h3 => g5 y h1 (by omega)) rfl rfl)
  · rw [List.length_map] at hz
    obtain ⟨k1, k2, k3, k4⟩ := hz
    have m0 : 0 ∈ bs := (hb 0).mpr ⟨List.mem_of_getElem? ok.hd, by unfold Base; omega⟩
    refine n_frz (i := 6) (j := 0) rfl rfl (n_ret (EN.lx (en_bi1 (e_bi1 (t := tL (zs.map tn)) (e_var rfl) (bi_setLD (by omega) fun ks nd hk => ?_)) bin_sortedSetD)) fun v H G z1 z2 z3 z4 => ?_)
    · have := nodup_len 14 nd fun k m => by
        have := (k2 k (hk k m)).1
        omega
      omega
    · obtain ⟨ms, ⟨m1, m2⟩, z5⟩ := z4
      refine q v H G z1 z2 z3 ⟨ms, ⟨(m2 0).mpr (k1 0 m0), fun z m => k2 z ((m2 z).mp m), fun b m hbs => (m2 b).mpr (k1 b ((hb b).mpr ⟨m, hbs⟩)), fun z m lt ns => (m2 _).mpr ?_, ?_⟩, z5⟩
      · obtain ⟨_, b, c1, c2, c3, c4⟩ := k2 z ((m2 z).mp m)
        obtain ⟨j, hj⟩ := List.getElem?_of_mem ((hb b).mpr ⟨c1, c2⟩)
        refine k4 j b (z + 1) (List.getElem?_eq_some_iff.mp hj).1 hj (by omega) (fun p h1 h2 => ?_) lt
        by_cases e : p = z
        · rw [e]
          exact ns
        · exact c4 p h1 (by omega)
      · exact nodup_len 14 (m1.imp fun h => Nat.ne_of_lt h) fun k m => by
          have := (k2 k ((m2 k).mp m)).1
          omega
end
end K89
set_option Elab.async false
set_option linter.all false
set_option maxRecDepth 100000
set_option maxHeartbeats 4000000
/-! K89W15: the law's own cut; who loses. -/
namespace K89
open PySem PySem.Spec PyProof.Rows L2
section
variable {F B : Hp} {Γ : Gam} {M : List Mut1} {ta tb te : TE} {t t1 t2 : Ty} {ts : List Ty} {K : PySem.W.Frag} {p : Addr} {P : L2.St → Hp → Prop} {β : Type} {φ : β → Prop}
theorem tg_subNameX {f : β → Ty} {i j l : Nat} (hj : M[j]? = some (p, mL ts)) (ha : K89.E ta Γ M (tR p)) (hb : K89.E tb Γ M (tn i)) (hi : i < ts.length) (k : ∀ y, φ y → N P F B (Γ.set l (some t2)) (M.set j (p, mL (ts.set i (f y))))) : TgN (gTup K 2 (gCons (gSub ta tb L2.rSetL) (gCons (gName l) gNil))) (tT [tEx φ f, t2]) F B Γ M P := fun σ H G v s g a => by
  obtain ⟨b, vs, e1, eb, av⟩ := a
  obtain ⟨x, y, e2, ⟨z, hz, ax⟩, ay⟩ := at2 av
  exact tg_subName (t1 := f z) (t2 := t2) hj ha hb hi (k z hz) σ H G v s g ⟨b, vs, e1, eb, by rw [e2]; exact ⟨ax, ay, trivial⟩⟩
theorem en_exs {α γ : Type} {φ : α → γ → Prop} {f : γ → Ty} {xs : List α} (h : EN te Γ M (mL (xs.map fun x => tEx (φ x) f))) : EN te Γ M (mEx (fun zs : List γ => zs.length = xs.length ∧ ∀ (i : Nat) x z, xs[i]? = some x → zs[i]? = some z → φ x z) fun zs => mL (zs.map f)) := h.imp fun o G a => by
  obtain ⟨vs, e, av⟩ := a
  obtain ⟨zs, h1, h2, h3⟩ := at_exs av
  exact ⟨zs, ⟨h1, h2⟩, vs, e, h3⟩
end
structure Max0 (zss : List (List Nat)) (cut : List Nat) : Prop where
  cin : CutIn zss cut
  top : ∀ h z, zss[h]? = some z → ∀ a ∈ z, a ≤ cut.getD h 0
def RemP (y : Ly) (cut : List Nat) : Prop := ∃ zss : List (List Nat), zss.length = y.rs.length ∧ (∀ h z, h < y.rs.length → zss[h]? = some z → LawL y.rs (y.ke.getD h []) y.fs y.ws h z) ∧ CutIn zss cut ∧ Closed y.rs cut ∧ ∃ cut0, Max0 zss cut0 ∧ (Closed y.rs cut0 → cut = cut0)
section
variable {P : Program} {w : World} {K : PySem.W.Frag} {mg : Str → Option Value}
theorem f__law_remaining (T : En K mg) : Cal P w K mg "_law_remaining" 2 ["_law_rows_here", "_law_kept_here", "_law_fallen", "_law_written"] (spT (fun y : Ly => y.as) (fun y => tEx (RemP y) fun cut => tT (cut.map tn))) := by
  have S : FnScope ["_law_rows_here", "_law_kept_here", "_law_fallen", "_law_written", "_law_heard", "_law_left_here", "_law_cut", "_law_is_still", "_law_far", "_law_near", "_law_house", "_law_place", "_law_some", "_law_state"] ["_law_rows_here", "_law_kept_here", "_law_fallen", "_law_written"] d__law_remaining.scope := ⟨rfl, rfl, rfl, by decide +kernel, rfl, by decide +kernel, by decide +kernel⟩
  refine Cal.mk' (n := 10) T 47 41 rfl rfl rfl rfl rfl S rfl (fun _ => rfl) (fun _ _ _ _ _ _ us hl => match us, hl with | [_, _, _, _], _ => rfl) fun base cdv A outer s H EX hr => ⟨_, (pss_cons (ps_set (i := 4) S.nd rfl (Or.inl rfl) (pe_f (f__law_heard_letters T) hr rfl (pa_cons (pv 0) pa_nil)))
      (pss_cons (ps_setLc (i := 5) (own := [("_law_house", 10)]) rfl S.nd rfl rfl (sw_true rfl rfl rfl (by decide +kernel)) (pi_range1 rfl T.range (pa_cons (pe_callB call_len rfl T.len bo_len (pa_cons (pv 0) pa_nil)) pa_nil)) (blkOk_by (own := [("_law_house", 10)]) (N := ["_law_rows_here", "_law_kept_here", "_law_fallen", "_law_written", "_law_heard", "_law_left_here", "_law_cut", "_law_is_still", "_law_far", "_law_near", "_law_house", "_law_place", "_law_some", "_law_state"]) (sc := d__law_remaining.scope) (by decide +kernel)) (fun _ _ _ _ _ => (pg_name (i := 10) S.nd rfl (Or.inl rfl))) (fun _ _ _ _ _ => pts_nil) (fun _ _ _ _ _ => (pe_f (f__law_left T) hr rfl (pa_cons (pv 0) (pa_cons (pv 1) (pa_cons (pv 2) (pa_cons (pv 3) (pa_cons (pv 10) pa_nil))))))))
      (pss_cons (ps_par (i := 6) (j := 7) rfl S.nd rfl rfl (by decide) rfl rfl (pa_cons (pe_lc (own := [("_law_some", 12)]) rfl S.nd (pi_list (pv 5)) (blkOk_by (own := [("_law_some", 12)]) (N := ["_law_rows_here", "_law_kept_here", "_law_fallen", "_law_written", "_law_heard", "_law_left_here", "_law_cut", "_law_is_still", "_law_far", "_law_near", "_law_house", "_law_place", "_law_some", "_law_state"]) (sc := d__law_remaining.scope) (by decide +kernel)) (fun _ _ _ _ _ => (pg_name (i := 12) S.nd rfl (Or.inl rfl))) (fun _ _ _ _ _ => pts_nil) (fun _ _ _ _ _ => (pe_callB (cr_maxK (K := K) rfl rfl) rfl T.max bo_max (pa_cons (pv 12) pa_nil)))) (pa_cons pe_bl pa_nil)) rfl)
      (pss_cons (ps_while PassesOwn.never (pt_not (pt_val (pv 7))) (pss_cons (ps_set (i := 7) S.nd rfl (Or.inl rfl) pe_bl)
      (pss_one (ps_for PassesOwn.never rfl (pi_values (pv 4)) (pg_tup rfl (pgs_cons (pg_name (i := 8) S.nd rfl (Or.inl rfl)) (pgs_cons (pg_name (i := 9) S.nd rfl (Or.inl rfl)) (pgs_cons (pg_name (i := 10) S.nd rfl (Or.inl rfl)) (pgs_cons (pg_name (i := 11) S.nd rfl (Or.inr rfl)) pgs_nil))))) (pss_one (ps_if (PW.pt (pw_and (pt_cmpR op_ge (pv 9) (pe_ix ix_list (pv 6) (pv 8) (fun _ _ => rfl)) (nomark _)) (pw_and1 (pt_cmpR op_lt (pv 11) (pe_ix ix_list (pv 6) (pv 10) (fun _ _ => rfl)) (nomark _))))) (pss_one (ps_asg (pe_tup (pa_cons (pe_callB (cr_max rfl) rfl T.max bo_max (pa_cons (pe_lc (own := [("_law_state", 13)]) rfl S.nd (pi_list (pe_ix ix_list (pv 5) (pv 10) (fun _ _ => rfl))) (blkOk_by (own := [("_law_state", 13)]) (N := ["_law_rows_here", "_law_kept_here", "_law_fallen", "_law_written", "_law_heard", "_law_left_here", "_law_cut", "_law_is_still", "_law_far", "_law_near", "_law_house", "_law_place", "_law_some", "_law_state"]) (sc := d__law_remaining.scope) (by decide +kernel)) (fun _ _ _ _ _ => (pg_name (i := 13) S.nd rfl (Or.inl rfl))) (fun _ _ _ _ _ => (pts_one (pt_cmpR op_le (pv 13) (pv 11) (nomark _)))) (fun _ _ _ _ _ => (pv 13))) pa_nil)) (pa_cons pe_bl pa_nil))) (pg_tup rfl (pgs_cons (pg_sub (pv 6) (pv 10) set_list) (pgs_cons (pg_name (i := 7) S.nd rfl (Or.inl rfl)) pgs_nil))))) pss_nil))))))
      (pss_one (ps_ret (pe_callTy call_tOf rfl T.tuple bo_tuple (pa_cons (pv 6) pa_nil)))))))), ?_⟩
  rintro y F B Q q
  have n4 := y.R.n4
  refine n_seq (n_asg (e_f ⟨y.rs, y.R⟩ (ea_cons (e_var rfl) ea_nil)) ?_)
  refine n_ex (i := 4) rfl fun cs hcs => ?_
  have c13 := hcs.len y.R
  refine n_seq (n_asg (e_exs (xs := List.range y.rs.length) (EN.l (en_map (f := tn) (u := fun h => tEx (LawL y.rs (y.ke.getD h []) y.fs y.ws h) fun zs => tL (zs.map tn)) (src_range1 (ea_cons ((e_bi1 (e_var rfl) bi_len).to (by rw [List.length_map])) ea_nil) (by omega)) (by rw [List.length_range]; omega) fun h hm => ⟨_, tc_name (by decide), ?_⟩))) ?_)
  · exact e_f (⟨(y, h), List.mem_range.mp hm⟩ : {y : Ly × Nat // y.2 < y.1.rs.length}) (ea_cons (e_var rfl) (ea_cons (e_var rfl) (ea_cons (e_var rfl) (ea_cons (e_var rfl) (ea_cons (e_var rfl) ea_nil)))))
  refine n_ex (i := 5) rfl fun zss hz => ?_
  have hz1 : zss.length = y.rs.length := by rw [hz.1, List.length_range]
  have hz2 : ∀ h z, h < y.rs.length → zss[h]? = some z → LawL y.rs (y.ke.getD h []) y.fs y.ws h z := fun h z hh e => hz.2 h h z (List.getElem?_range hh) e
  have zl {h : Nat} (hh : h < y.rs.length) : ∃ z, zss[h]? = some z ∧ LawL y.rs (y.ke.getD h []) y.fs y.ws h z := by
    have e : zss[h]? = some zss[h] := List.getElem?_eq_getElem (by omega)
    exact ⟨_, e, hz2 h _ hh e⟩
  have memL : ∀ z ∈ zss, 0 ∈ z ∧ z.length ≤ 14 := fun z m => by
    obtain ⟨h, hh⟩ := List.getElem?_of_mem m
    have l := hz2 h z (by have := (List.getElem?_eq_some_iff.mp hh).1; omega) hh
    exact ⟨l.zero, l.len⟩
  refine n_seq (n_par1 (m1 := mEx (fun cut : List Nat => cut.length = zss.length ∧ ∀ (i : Nat) x z, zss[i]? = some x → cut[i]? = some z → (z ∈ x ∧ ∀ a ∈ x, a ≤ z)) fun cut => mL (cut.map tn)) (en_exs (xs := zss) (en_map (xs := zss) (f := fun z => tL (z.map tn)) (u := fun z => tEx (fun m => m ∈ z ∧ ∀ a ∈ z, a ≤ m) tn) (src_list (e_var rfl)) (by omega) fun z hm => ⟨_, tc_name (by decide), e_bi1 (e_var rfl) (bi_max fun e => ?_)⟩)) e_c fun cp => ?_)
  · have := (memL z hm).1
    rw [e] at this
    cases this
  refine n_exM (j := 0) rfl fun cut0 hcut0 => ?_
  have g0 : ∀ h z, zss[h]? = some z → cut0.getD h 0 ∈ z ∧ ∀ a ∈ z, a ≤ cut0.getD h 0 := fun h z e => hcut0.2 h z (cut0.getD h 0) e (getD_at (by rw [hcut0.1]; exact (List.getElem?_eq_some_iff.mp e).1))
  have c0 : Max0 zss cut0 := ⟨⟨hcut0.1, fun h z e => (g0 h z e).1⟩, fun h z e => (g0 h z e).2⟩
  refine n_seq (n_while (α := List Nat × Bool) (fun n x => n = 2 * x.1.sum + (!x.2).toNat ∧ CutIn zss x.1 ∧ (x.2 = true → Closed y.rs x.1) ∧ (Closed y.rs cut0 → x.1 = cut0)) (fun x => [some (tRows false y.rs), some (tD (kvO false 0 y.ke)), some (tL (y.fs.map tn)), some (tL (y.ws.map tn)), some (tD (cs.map hrK)), some (tL (zss.map fun z => tL (z.map tn))), some (tR cp), some (tB x.2), none, none, none, none, none, none]) (fun x => [(cp, mL (x.1.map tn))]) _ (cut0, false) ⟨rfl, c0.cin, (fun z => nomatch z), fun _ => rfl⟩ rfl rfl fun n x hx => ?_)
  · obtain ⟨cut, st⟩ := x
    dsimp only at hx
    obtain ⟨en, hc, hcl, hc0⟩ := hx
    refine ⟨fun c => c = !st, et_not (et_B (e_var rfl)), fun z => ?_, fun z => ?_⟩
    · have z' : st = false := by
        cases st with
        | false => rfl
        | true => cases z
      subst z'
      refine n_seq (n_asg e_c ?_)
      refine n_for (ts := (cs.map hrK).map (·.2)) (α := List Nat × Bool) (fun i x => CutIn zss x.1 ∧ (x.2 = true → x.1 = cut ∧ ∀ j c, j < i → cs[j]? = some c → ClosedAt cut c) ∧ (x.2 = false → x.1.sum < cut.sum) ∧ (Closed y.rs cut0 → x.1 = cut0)) (fun x => [some (tRows false y.rs), some (tD (kvO false 0 y.ke)), some (tL (y.fs.map tn)), some (tL (y.ws.map tn)), some (tD (cs.map hrK)), some (tL (zss.map fun z => tL (z.map tn))), some (tR cp), some (tB x.2), none, none, none, none, none, none]) (fun x => [(cp, mL (x.1.map tn))]) (src_vals (e_var rfl)) (cut, true) ⟨hc, fun _ => ⟨rfl, fun j c hj => absurd hj (Nat.not_lt_zero _)⟩, (fun z => nomatch z), hc0⟩ rfl rfl (fun B' eB i t x ht hx => ?_) fun x hx => ?_
      · obtain ⟨cut2, st2⟩ := x
        dsimp only at hx
        obtain ⟨k1, k2, k3, k4⟩ := hx
        rw [List.map_map, List.getElem?_map] at ht
        cases ec : cs[i]? with
        | none => rw [ec] at ht; cases ht
        | some c =>
        rw [ec] at ht
        have ht' := Option.some.inj ht
        subst ht'
        have car := (hcs.mem c).mp (List.mem_of_getElem? ec)
        obtain ⟨l, ⟨a, b⟩, ⟨d, e⟩⟩ := c
        have la : a < y.rs.length := car.lt.1
        have ld : d < y.rs.length := car.lt.2
        have cl := k1.len
        have ga := getD_at (xs := cut2) (i := a) (by omega)
        have gd := getD_at (xs := cut2) (i := d) (by omega)
        obtain ⟨z, z1, z2⟩ := zl ld
        refine tg_4 ?_
        have rd {Γ : Gam} {M : List Mut1} {te : TE} {h v : Nat} (h4 : Γ[6]? = some (some (tR cp))) (hm : M[0]? = some (cp, mL (cut2.map tn))) (hv : cut2[h]? = some v) (ht : K89.E te (Γ.set 6 (some (tL (cut2.map tn)))) [] (tn h)) : K89.E (tOp (rIxL K) (tVar 6) te) Γ M (tn v) :=
          E.focusL (i := 6) (j := 0) h4 hm (e_ixL (e_var (List.getElem?_set_self (List.getElem?_eq_some_iff.mp h4).1)) ht (map_at hv)) flat_V
        have tst := et_and (Γ := [some (tRows false y.rs), some (tD (kvO false 0 y.ke)), some (tL (y.fs.map tn)), some (tL (y.ws.map tn)), some (tD (cs.map hrK)), some (tL (zss.map fun z => tL (z.map tn))), some (tR cp), some (tB st2), some (tn a), some (tn b), some (tn d), some (tn e), none, none]) (M := [(cp, mL (cut2.map tn))])
          (et_test (e_op0 (f := fun i j => .bl (decide (i ≥ j))) (e_var (i := 9) rfl) (rd rfl rfl ga (e_var (i := 8) rfl))))
          fun _ => et_test (e_op0 (f := fun i j => .bl (decide (i < j))) (e_var (i := 11) rfl) (rd rfl rfl gd (e_var (i := 10) rfl)))
        refine n_if tst (fun hb => ?_) fun hb => ?_
        · obtain ⟨b1, b2⟩ := Bool.and_eq_true_iff.mp hb.symm
          have c1 := of_decide_eq_true b1
          have c2 := of_decide_eq_true b2
          have nc : ¬ Closed y.rs cut0 := fun cc => by
            have e1 := k4 cc
            have h1 : cut0.getD a 0 ≤ b := by rw [← e1]; omega
            have h2 : cut0.getD d 0 ≤ e := cc _ car h1
            rw [← e1] at h2
            omega
          have fne : z.filter (fun s => decide (s ≤ e)) ≠ [] := fun q => by
            have m : 0 ∈ z.filter fun s => decide (s ≤ e) := List.mem_filter.mpr ⟨z2.zero, decide_eq_true (Nat.zero_le _)⟩
            rw [q] at m
            cases m
          refine n_asgT (t := tT [tEx (fun m => m ∈ (z.filter fun s => decide (s ≤ e)) ∧ ∀ a ∈ (z.filter fun s => decide (s ≤ e)), a ≤ m) tn, tB false]) (e_tup2 (e_bi1 (t := tL ((z.filter fun s => decide (s ≤ e)).map tn)) (EN.l (en_fil (xs := z) (f := tn) (u := tn) (c := fun s => decide (s ≤ e)) (src_list (e_ixL (e_var rfl) (e_var rfl) (atI_n (by rw [List.getElem?_map, z1] <;> rfl)))) (by have := z2.len; omega) fun s hs => ⟨_, tc_name (by decide), et_test ((e_op0 (i := (s : Int)) (j := (e : Int)) (e_var rfl) (e_var rfl)).to (congrArg tB (decide_eq_decide.mpr (by omega)))), fun _ => e_var rfl⟩)) (bi_max fne)) e_c) (tg_subNameX (j := 0) (i := d) rfl (e_var rfl) (e_var rfl) (by show d < (cut2.map tn).length; rw [List.length_map]; omega) fun m hm => ?_)
          have hm1 := List.mem_filter.mp hm.1
          have me : m ≤ e := of_decide_eq_true hm1.2
          refine n_fg [8, 9, 10, 11] (li (cut2.set d m, false) ⟨k1.set z1 hm1.1, (fun q => nomatch q), fun _ => ?_, fun cc => absurd cc nc⟩ rfl ?_)
          · have sl := sum_set_lt (xs := cut2) (i := d) (x := m) (by omega) (by omega)
            cases st2 with
            | false =>
              have := k3 rfl
              show (cut2.set d m).sum < _
              omega
            | true =>
              rw [← (k2 rfl).1]
              exact sl
          · show [(cp, _)] = [(cp, mL ((cut2.set d m).map tn))]
            rw [List.map_set]
        · refine n_next (n_fg [8, 9, 10, 11] (li (cut2, st2) ⟨k1, fun q => ⟨(k2 q).1, fun j c hj hc => ?_⟩, k3, k4⟩ rfl rfl))
          by_cases ej : j = i
          · subst ej
            rw [ec] at hc
            cases hc
            rw [← (k2 q).1]
            intro h1
            have h1' : cut2.getD a 0 ≤ b := h1
            show cut2.getD d 0 ≤ e
            by_cases lt : cut2.getD d 0 ≤ e
            · exact lt
            · have t1 : decide ((b : Int) ≥ (cut2.getD a 0 : Int)) = true := decide_eq_true (by omega)
              have t2 : decide ((e : Int) < (cut2.getD d 0 : Int)) = true := decide_eq_true (by omega)
              have hb' : false = (decide ((b : Int) ≥ (cut2.getD a 0 : Int)) && decide ((e : Int) < (cut2.getD d 0 : Int))) := hb
              rw [t1, t2] at hb'
              cases hb'
          · exact (k2 q).2 j c (by omega) hc
      · obtain ⟨cut2, st2⟩ := x
        dsimp only at hx
        obtain ⟨k1, k2, k3, k4⟩ := hx
        rw [List.map_map, List.length_map] at k2
        refine lw (2 * cut2.sum + (!st2).toNat) (cut2, st2) ?_ ⟨rfl, k1, fun q c hc => ?_, k4⟩ rfl rfl
        · rw [en]
          cases st2 with
          | true =>
            rw [(k2 rfl).1]
            show 2 * _ + 0 < 2 * _ + 1
            omega
          | false =>
            have := k3 rfl
            show 2 * _ + 1 < 2 * _ + 1
            omega
        · have e3 : cut2 = cut := (k2 q).1
          show ClosedAt cut2 c
          rw [e3]
          obtain ⟨j, hj⟩ := List.getElem?_of_mem ((hcs.mem c).mpr hc)
          exact (k2 q).2 j c (List.getElem?_eq_some_iff.mp hj).1 hj
    · have z' : st = true := by
        cases st with
        | true => rfl
        | false => cases z
      subst z'
      exact n_ret (e_tupleM (j := 0) (e_var rfl) (List.mem_cons_self ..)) fun v H G z1 z2 z3 z4 => q v H G z1 z2 z3 ⟨cut, ⟨zss, hz1, hz2, hc, hcl rfl, cut0, c0, hc0⟩, z4⟩
def LosP (y : Ly) (b : Bool) : Prop := ∃ cut, RemP y cut ∧ (b = true ↔ ∃ h, h < y.rs.length ∧ h ∉ y.fs ∧ cut.getD h 0 < sz y.rs h)
theorem f__law_loses (T : En K mg) : Cal P w K mg "_law_loses" 3 ["_law_rows_here", "_law_kept_here", "_law_fallen", "_law_written"] (spT (fun y : Ly => y.as) (fun y => tEx (LosP y) tB)) := by
  have S : FnScope ["_law_rows_here", "_law_kept_here", "_law_fallen", "_law_written", "_law_cut", "_law_house", "_law_row"] ["_law_rows_here", "_law_kept_here", "_law_fallen", "_law_written"] d__law_loses.scope := ⟨rfl, rfl, rfl, by decide +kernel, rfl, by decide +kernel, by decide +kernel⟩
  refine Cal.mk' (n := 3) T 49 43 rfl rfl rfl rfl rfl S rfl (fun _ => rfl) (fun _ _ _ _ _ _ us hl => match us, hl with | [_, _, _, _], _ => rfl) fun base cdv A outer s H EX hr => ⟨_, (pss_cons (ps_set (i := 4) S.nd rfl (Or.inr rfl) (pe_f (f__law_remaining T) hr rfl (pa_cons (pv 0) (pa_cons (pv 1) (pa_cons (pv 2) (pa_cons (pv 3) pa_nil))))))
      (pss_one (ps_ret (pe_callB (cr_any rfl) rfl T.any bo_any (pa_cons (pe_lc (own := [("_law_house", 5), ("_law_row", 6)]) rfl S.nd (pi_enum rfl T.enumerate (pa_cons (pv 0) pa_nil)) (blkOk_by (own := [("_law_house", 5), ("_law_row", 6)]) (N := ["_law_rows_here", "_law_kept_here", "_law_fallen", "_law_written", "_law_cut", "_law_house", "_law_row"]) (sc := d__law_loses.scope) (by decide +kernel)) (fun _ _ _ _ _ => (pg_tupK (K := K) (n := 2) rfl rfl (pgs_cons (pg_name (i := 5) S.nd rfl (Or.inl rfl)) (pgs_cons (pg_name (i := 6) S.nd rfl (Or.inl rfl)) pgs_nil)))) (fun _ _ _ _ _ => pts_nil) (fun _ _ _ _ _ => (pe_and (pe_cmpR (op_notIn_seqK (K := K) rfl) (pv 5) (pv 2) rfl) (pe_one (pe_cmpR op_lt (pe_ix (ix_tupK (K := K) rfl) (pv 4) (pv 5) (fun _ _ => rfl)) (pe_callB (call_lenK (K := K) rfl) rfl T.len bo_len (pa_cons (pv 6) pa_nil)) (nomark _)))))) pa_nil))))), ?_⟩
  rintro y F B Q q
  have n4 := y.R.n4
  refine n_seq (n_asg (e_f y (ea_cons (e_var rfl) (ea_cons (e_var rfl) (ea_cons (e_var rfl) (ea_cons (e_var rfl) ea_nil))))) ?_)
  refine n_ex (i := 4) rfl fun cut hcut => ?_
  obtain ⟨zss, hz1, hz2, hci, _⟩ := id hcut
  have hl : cut.length = y.rs.length := by rw [hci.len, hz1]
  refine n_ret (E.imp (e_anyC (xs := y.rs.zipIdx) (f := fun p : Row × Nat => !decide (p.2 ∈ y.fs) && decide (cut.getD p.2 0 < p.1.length)) (en_map (f := fun p : Row × Nat => tT [tn p.2, tRow false p.1]) ?_ (by rw [List.length_zipIdx]; omega) fun p hp => ⟨_, tc_2 (by decide) (by decide), ?_⟩)) fun v G a => ?_) q
  · rw [← enum_map]
    exact src_enum (ea_cons (e_var rfl) ea_nil)
  · obtain ⟨r, h⟩ := p
    have hr := List.mem_zipIdx_iff_getElem?.mp hp
    have hh : h < y.rs.length := (List.getElem?_eq_some_iff.mp hr).1
    have gc := getD_at (xs := cut) (i := h) (by omega)
    exact e_andV (e_inN (tup := false) (neg := true) (e_var rfl) (e_var rfl)) fun _ => (e_op0 (e_ixT (i := (h : Int)) (e_var rfl) (e_var rfl) (map_at gc)) (e_bi1 (e_var rfl) bi_len)).to (congrArg tB (decide_eq_decide.mpr (by rw [List.length_map]; show ((cut.getD h 0 : Nat) : Int) < (r.length : Int) ↔ cut.getD h 0 < r.length; omega)))
  · refine ⟨_, ⟨cut, hcut, ?_⟩, a⟩
    rw [List.any_eq_true]
    constructor
    · rintro ⟨⟨r, h⟩, hp, hb⟩
      have hr := List.mem_zipIdx_iff_getElem?.mp hp
      obtain ⟨b1, b2⟩ := Bool.and_eq_true_iff.mp hb
      refine ⟨h, (List.getElem?_eq_some_iff.mp hr).1, by simpa using b1, ?_⟩
      have b3 : cut.getD h 0 < r.length := of_decide_eq_true b2
      unfold sz
      rw [List.getD_eq_getElem?_getD (l := y.rs), hr]
      exact b3
    · rintro ⟨h, hh, nf, lt⟩
      have hr : y.rs[h]? = some y.rs[h] := List.getElem?_eq_getElem hh
      refine ⟨(y.rs[h], h), List.mem_zipIdx_iff_getElem?.mpr hr, ?_⟩
      rw [Bool.and_eq_true]
      refine ⟨by simpa using nf, decide_eq_true ?_⟩
      unfold sz at lt
      rw [List.getD_eq_getElem?_getD (l := y.rs), hr] at lt
      exact lt
end
end K89
set_option Elab.async false
set_option linter.all false
set_option maxRecDepth 100000
set_option maxHeartbeats 4000000
/-! K89W16: the law's own look at what is to be written. -/
namespace K89
open PySem PySem.Spec PyProof.Rows L2
theorem atI_neg2 {α : Type} {xs : List α} {x : α} (hl : 1 < xs.length) (h : xs[xs.length - 2]? = some x) : atI xs (-2) = some x := by
  unfold atI ixN
  rw [if_neg (by omega), if_pos (by omega)]
  rw [show ((-2 : Int) + (xs.length : Int)).toNat = xs.length - 2 by omega]
  exact h
theorem beg_ok {size : Nat} {k : List Nat} (o : KeOk size k) (hl : 1 < k.length) : ∃ b, k[k.length - 2]? = some b ∧ b < size ∧ ∀ p, b ≤ p ↔ ∀ s ∈ k, s < size → s ≤ p := by
  have h1 : k.length - 2 < k.length := by omega
  have hL := o.lst
  rw [List.getLast?_eq_getElem?] at hL
  obtain ⟨h3, h4⟩ := List.getElem?_eq_some_iff.mp hL
  have lt := List.pairwise_iff_getElem.mp o.inc (k.length - 2) (k.length - 1) h1 h3 (by omega)
  refine ⟨k[k.length - 2], List.getElem?_eq_getElem h1, by omega, fun p => ⟨fun a s hs hlt => ?_, fun a => a _ (List.getElem_mem h1) (by omega)⟩⟩
  obtain ⟨i, hi⟩ := List.getElem?_of_mem hs
  obtain ⟨i1, i2⟩ := List.getElem?_eq_some_iff.mp hi
  by_cases e : i = k.length - 1
  · subst e
    omega
  · by_cases e2 : i = k.length - 2
    · subst e2
      omega
    · have := List.pairwise_iff_getElem.mp o.inc i (k.length - 2) i1 h1 (by omega)
      omega
structure Tz where
  rs : List Row
  R : Rs rs
  ke : List (List Nat)
  d : Kd rs ke
  cs : List Cr
  hcs : Crs rs cs
def Tz.k (y : Tz) : Ka y.rs := y.d.ka
section
variable {P : Program} {w : World} {K : PySem.W.Frag} {mg : Str → Option Value}
theorem f__law_to_write (T : En K mg) : Cal P w K mg "_law_to_write" 1 ["_law_rows_here", "_law_kept_here", "_law_heard"] (spT (fun y : Tz => [tRows false y.rs, tD (kvO false 0 y.ke), tD (y.cs.map hrK)]) (fun y => tEx (DueA y.k) fun ls => tL (ls.map tn))) := by
  have S : FnScope ["_law_rows_here", "_law_kept_here", "_law_heard", "_law_found", "_law_house", "_law_row", "_law_begin", "_law_last", "_law_place", "_law_far", "_law_near", "_law_goal"] ["_law_rows_here", "_law_kept_here", "_law_heard"] d__law_to_write.scope := ⟨rfl, rfl, rfl, by decide +kernel, rfl, by decide +kernel, by decide +kernel⟩
  refine Cal.mk' (n := 9) T 50 44 rfl rfl rfl rfl rfl S rfl (fun _ => rfl) (fun _ _ _ _ _ _ us hl => match us, hl with | [_, _, _], _ => rfl) fun base cdv A outer s H EX hr => ⟨_, (pss_cons (ps_set (i := 3) S.nd rfl (Or.inl rfl) (pe_lst pa_nil))
      (pss_cons (ps_for PassesOwn.never rfl (pi_enum rfl T.enumerate (pa_cons (pv 0) pa_nil)) (pg_tup rfl (pgs_cons (pg_name (i := 4) S.nd rfl (Or.inr rfl)) (pgs_cons (pg_name (i := 5) S.nd rfl (Or.inl rfl)) pgs_nil))) (pss_cons (ps_set (i := 6) S.nd rfl (Or.inl rfl) (pe_ifExp (pt_cmpR op_gt (pe_callB call_len rfl T.len bo_len (pa_cons (pe_dget (hu_of hr) (pv 1) (pv 4) (fun _ _ => rfl)) pa_nil)) pe_int (nomark _)) (pe_ix ix_list (pe_dget (hu_of hr) (pv 1) (pv 4) (fun _ _ => rfl)) (pe_un un_neg pe_int) (fun _ _ => rfl)) pe_int))
      (pss_cons (ps_set (i := 7) S.nd rfl (Or.inl rfl) (pe_callB (cr_max rfl) rfl T.max bo_max (pa_cons (pe_op op_cat (pe_lst (pa_cons pe_int pa_nil)) (pe_lc (own := [("_law_far", 9), ("_law_near", 10), ("_law_goal", 11), ("_law_place", 8)]) rfl S.nd (pi_values (pv 2)) (blkOk_by (own := [("_law_far", 9), ("_law_near", 10), ("_law_goal", 11), ("_law_place", 8)]) (N := ["_law_rows_here", "_law_kept_here", "_law_heard", "_law_found", "_law_house", "_law_row", "_law_begin", "_law_last", "_law_place", "_law_far", "_law_near", "_law_goal"]) (sc := d__law_to_write.scope) (by decide +kernel)) (fun _ _ _ _ _ => (pg_tupK (K := K) (n := 4) rfl rfl (pgs_cons (pg_name (i := 9) S.nd rfl (Or.inl rfl)) (pgs_cons (pg_name (i := 10) S.nd rfl (Or.inl rfl)) (pgs_cons (pg_name (i := 11) S.nd rfl (Or.inl rfl)) (pgs_cons (pg_name (i := 8) S.nd rfl (Or.inl rfl)) pgs_nil)))))) (fun _ _ _ _ _ => (pts_one (pt_cmpR op_eq (pv 9) (pv 4) (nomark _)))) (fun _ _ _ _ _ => (pe_op op_add (pv 10) pe_int)))) pa_nil)))
      (pss_one (ps_for PassesOwn.never rfl (pi_range2 rfl T.range (pa_cons (pv 6) (pa_cons (pv 7) pa_nil))) (pg_name (i := 8) S.nd rfl (Or.inl rfl)) (pss_one (ps_if (pt_cmpR op_eq (pe_ix ix_tup (pe_ix ix_list (pv 5) (pv 8) (fun _ _ => rfl)) pe_int (fun _ _ => rfl)) pe_str (nomark _)) (pss_one (ps_expr (pe_bm PySem.F.plainAttrs_list PySem.F.slot_list_append PySem.F.type_list_append mt_append (pv 3) (pa_cons (pe_ix ix_tup (pe_ix ix_list (pv 5) (pv 8) (fun _ _ => rfl)) pe_int (fun _ _ => rfl)) pa_nil)))) pss_nil)))))))
      (pss_one (ps_ret (pe_callB cr_sortedI rfl T.sorted bo_sorted (pa_cons (pv 3) pa_nil)))))), ?_⟩
  rintro ⟨rs, R, ke, d, cs, hcs⟩ F B Q q
  have n4 := R.n4
  have c13 := hcs.len R
  refine n_seq (n_asgN (en_lst ea_nil (by decide)) fun fp => ?_)
  refine n_seq (n_for (α := List Nat) (fun i ls => (∀ l, l ∈ ls ↔ ∃ h, h < i ∧ DueH rs (ke.getD h []) h l) ∧ ls.Nodup ∧ ls.length ≤ 13 * i) (fun _ => [some (tRows false rs), some (tD (kvO false 0 ke)), some (tD (cs.map hrK)), some (tR fp), none, none, none, none, none, none, none, none]) (fun ls => [(fp, mL (ls.map tn))]) (src_enum (ts := rs.map (tRow false)) (ea_cons (e_var rfl) ea_nil)) [] ⟨fun l => ⟨(fun z => by cases z), fun ⟨h, z, _⟩ => absurd z (Nat.not_lt_zero _)⟩, List.nodup_nil, Nat.le_refl _⟩ rfl rfl (fun B' eB h t ls ht hls => ?_) fun ls hls => ?_)
  · obtain ⟨u, hu, rfl⟩ := enum_at ht
    rw [List.getElem?_map] at hu
    cases er : rs[h]? with
    | none => rw [er] at hu; cases hu
    | some r =>
    rw [er] at hu
    have hu' := Option.some.inj hu
    subst hu'
    have hh : h < rs.length := (List.getElem?_eq_some_iff.mp er).1
    have ok := d.ok h hh
    have lk := kvO_at d hh
    have s13 := R.sz h
    have hsz : sz rs h = r.length := by
      unfold sz
      rw [List.getD_eq_getElem?_getD, er] <;> rfl
    obtain ⟨b, bsz, hb, eb⟩ : ∃ b, b ≤ 13 ∧ (∀ p, p < sz rs h → (b ≤ p ↔ ∀ s ∈ ke.getD h [], s < sz rs h → s ≤ p)) ∧ ∀ {Γ : Gam} {M : List Mut1}, Γ[1]? = some (some (tD (kvO false 0 ke))) → Γ[4]? = some (some (tn h)) → K89.E (tIf (tTest (tOp (rI0 fun i j => .bl (decide (i > j))) (tCB (rLen K) (tCons (tDGet (tVar 1) (tVar 4)) tNil)) (tC (.int 1)))) (tOp (rIxL K) (tDGet (tVar 1) (tVar 4)) (tUn (rU fun i => .int (-i)) (tC (.int 2)))) (tC (.int 0))) Γ M (tn b) := by
      by_cases l1 : 1 < (ke.getD h []).length
      · obtain ⟨b, b1, b2, b3⟩ := beg_ok ok l1
        refine ⟨b, by omega, fun p _ => b3 p, fun h1 h4 => e_if (et_test ((e_op0 (e_bi1 (e_dget (k := kn h) (e_var h1) (e_var h4) lk) bi_len) e_c).to (u := tB true) (congrArg tB (decide_eq_true ?_)))) (fun _ => e_ixL (i := -2) (e_dget (k := kn h) (e_var h1) (e_var h4) lk) (e_neg e_c) (atI_neg2 (by rw [List.length_map]; exact l1) (by rw [List.length_map, List.getElem?_map, b1] <;> rfl))) fun z => nomatch z⟩
        rw [List.length_map]
        omega
      · refine ⟨0, by omega, fun p hp => ⟨fun _ s hs hlt => ?_, fun _ => Nat.zero_le _⟩, fun h1 h4 => e_if (et_test ((e_op0 (e_bi1 (e_dget (k := kn h) (e_var h1) (e_var h4) lk) bi_len) e_c).to (u := tB false) (congrArg tB (decide_eq_false ?_)))) (fun z => nomatch z) fun _ => e_c⟩
        · have e1 := ok.hd
          have e2 := ok.lst
          have h0 := List.length_pos_iff.mpr ok.ne
          have l2 : (ke.getD h []).length = 1 := by omega
          rw [List.getLast?_eq_getElem?, l2] at e2
          rw [e1] at e2
          have : 0 = sz rs h := Option.some.inj e2
          omega
        · rw [List.length_map]
          omega
    refine tg_2 (n_seq (n_asg (eb rfl rfl) ?_))
    refine n_seq (n_asg (t := tEx (fun m => m ∈ ([0] ++ (cs.filter fun c : Cr => decide (c.2.1.1 = h)).map fun c : Cr => c.2.1.2 + 1) ∧ ∀ y ∈ ([0] ++ (cs.filter fun c : Cr => decide (c.2.1.1 = h)).map fun c : Cr => c.2.1.2 + 1), y ≤ m) tn) (e_bi1 (t := tL (([0] ++ (cs.filter fun c : Cr => decide (c.2.1.1 = h)).map fun c : Cr => c.2.1.2 + 1).map tn)) ((EN.l (en_cat (ts := [tn 0]) (us := (cs.filter fun c : Cr => decide (c.2.1.1 = h)).map fun c : Cr => tn (c.2.1.2 + 1)) (EN.l (en_lst (ea_cons e_c ea_nil) (by show 1 ≤ 100000; decide))) (EN.l (en_fil (xs := cs) (f := fun c : Cr => tT [tn c.2.1.1, tn c.2.1.2, tn c.2.2.1, tn c.2.2.2]) (u := fun c : Cr => tn (c.2.1.2 + 1)) (c := fun c : Cr => decide (c.2.1.1 = h)) ?_ (by omega) fun c hc => ⟨_, tc_4 (by decide) (by decide) (by decide) (by decide), et_test ((e_eq (e_var rfl) (e_var rfl) rfl).to (congrArg tB vnat)), fun _ => ?_⟩)) ?_)).to ?_) (bi_max (List.cons_ne_nil _ _))) ?_)
    · have s := src_vals (Γ := [some (tRows false rs), some (tD (kvO false 0 ke)), some (tD (cs.map hrK)), some (tR fp), some (tn h), some (tRow false r), some (tn b), none, none, none, none, none]) (M := [(fp, mL (ls.map tn))]) (kvs := cs.map hrK) (e_var (i := 2) rfl)
      rw [List.map_map] at s
      exact s
    · exact (e_op0 (i := ((c.2.1.2 : Nat) : Int)) (j := 1) (e_var (t := tn c.2.1.2) rfl) e_c).to (congrArg tI (show ((c.2.1.2 : Nat) : Int) + 1 = ((c.2.1.2 + 1 : Nat) : Int) by omega))
    · rw [List.length_map]
      have : (cs.filter fun c : Cr => decide (c.2.1.1 = h)).length ≤ cs.length := List.length_filter_le ..
      show 1 + _ ≤ 100000
      omega
    · rw [List.map_append, List.map_map]
      rfl
    refine n_ex (i := 7) rfl fun e he => ?_
    have elt : e ≤ sz rs h := by
      rcases List.mem_append.mp he.1 with h2 | h2
      · have : e = 0 := by simpa using h2
        omega
      · obtain ⟨c, hc, ec⟩ := List.mem_map.mp h2
        have hc' := List.mem_filter.mp hc
        have car := ((hcs.mem c).mp hc'.1).1
        have e3 : c.2.1.1 = h := of_decide_eq_true hc'.2
        rw [e3] at car
        unfold letAt at car
        cases z : evAt rs h c.2.1.2 with
        | none => rw [z] at car; cases car
        | some ev =>
          have := (evAt_lt z).2
          omega
    have ine : ∀ p, p < e ↔ ∃ c, Car rs c ∧ c.2.1.1 = h ∧ p ≤ c.2.1.2 := fun p => by
      constructor
      · intro h1
        rcases List.mem_append.mp he.1 with h2 | h2
        · have : e = 0 := by simpa using h2
          omega
        · obtain ⟨c, hc, ec⟩ := List.mem_map.mp h2
          have hc' := List.mem_filter.mp hc
          exact ⟨c, (hcs.mem c).mp hc'.1, of_decide_eq_true hc'.2, by omega⟩
      · rintro ⟨c, hc, h1, h2⟩
        have := he.2 (c.2.1.2 + 1) (List.mem_append_right _ (List.mem_map.mpr ⟨c, List.mem_filter.mpr ⟨(hcs.mem c).mpr hc, decide_eq_true h1⟩, rfl⟩))
        omega
    refine n_for (α := List Nat) (fun j ls2 => (∀ l, l ∈ ls2 ↔ l ∈ ls ∨ ∃ p, b ≤ p ∧ p < b + j ∧ letAt false rs h p = some l) ∧ ls2.Nodup ∧ ls2.length ≤ 13 * h + j) (fun _ => [some (tRows false rs), some (tD (kvO false 0 ke)), some (tD (cs.map hrK)), some (tR fp), some (tn h), some (tRow false r), some (tn b), some (tn e), none, none, none, none]) (fun ls => [(fp, mL (ls.map tn))]) (src_range2 (lo := b) (n := e) (ea_cons (e_var rfl) (ea_cons (e_var rfl) ea_nil)) (by omega) (by omega)) ls ⟨fun l => ⟨.inl, fun z => z.elim id fun ⟨p, h1, h2, _⟩ => absurd h1 (by omega)⟩, hls.2.1, hls.2.2⟩ rfl rfl (fun B2 eB2 j t ls2 ht hz => ?_) fun ls2 hz => ?_
    · have hj : j < e - b := by
        have := (List.getElem?_eq_some_iff.mp ht).1
        simpa using this
      rw [range_at (f := fun i => tn (b + i)) ht]
      obtain ⟨g1, g2, g3⟩ := hz
      obtain ⟨ev, hev⟩ := evAt_some (rs := rs) (h := h) (p := b + j) (by omega)
      have hp : r[b + j]? = some ev := by
        unfold evAt at hev
        rw [er] at hev
        exact hev
      refine tg_name ?_
      by_cases hw : ev.tag = "hear"
      · obtain ⟨l, rfl⟩ : ∃ l, ev = .hear l := by
          cases ev with
          | do_ s => exact absurd hw t_dh
          | say l g t => exact absurd hw t_sh
          | hear l => exact ⟨l, rfl⟩
        have hl : letAt false rs h (b + j) = some l := letAt_ev hev
        refine n_ifT (et_test (e_eqT (e_ixT (i := 0) (e_ixL (e_var rfl) (e_var rfl) (row_at hp)) e_c rfl) e_c rfl rfl)) (n_app (j := 0) (t := tn l) rfl (e_var rfl) (e_ixT (i := 1) (e_ixL (e_var rfl) (e_var rfl) (row_at hp)) e_c rfl) (by rw [List.length_map]; omega) (n_fg [8] (li (ls2 ++ [l]) ⟨fun x => ?_, ?_, ?_⟩ rfl ?_)))
        · rw [List.mem_append, g1, List.mem_singleton]
          constructor
          · rintro ((z | ⟨p, h1, h2, h3⟩) | rfl)
            · exact .inl z
            · exact .inr ⟨p, h1, by omega, h3⟩
            · exact .inr ⟨b + j, by omega, by omega, hl⟩
          · rintro (z | ⟨p, h1, h2, h3⟩)
            · exact .inl (.inl z)
            · by_cases e2 : p = b + j
              · rw [e2, hl] at h3
                exact .inr (Option.some.inj h3).symm
              · exact .inl (.inr ⟨p, h1, by omega, h3⟩)
        · refine List.nodup_append.mpr ⟨g2, by simp, fun x hx y hy e2 => ?_⟩
          have hy' : y = l := by simpa using hy
          subst e2 hy'
          rcases (g1 x).mp hx with z | ⟨p, h1, h2, h3⟩
          · obtain ⟨h', k1, p', k2, _⟩ := (hls.1 x).mp z
            have := (R.good.u2 _ _ _ _ _ k2 hl).1
            omega
          · have := (R.good.u2 _ _ _ _ _ h3 hl).2
            omega
        · rw [List.length_append, List.length_singleton]
          omega
        · rw [List.map_append]
          rfl
      · refine n_ifF (et_test (e_eqF (e_ixT (i := 0) (e_ixL (e_var rfl) (e_var rfl) (row_at hp)) e_c (tag_at ev)) e_c rfl (s_ne hw))) (n_next (n_fg [8] (li ls2 ⟨fun x => ?_, g2, by omega⟩ rfl rfl)))
        rw [g1]
        constructor
        · rintro (z | ⟨p, h1, h2, h3⟩)
          · exact .inl z
          · exact .inr ⟨p, h1, by omega, h3⟩
        · rintro (z | ⟨p, h1, h2, h3⟩)
          · exact .inl z
          · by_cases e2 : p = b + j
            · rw [e2, letAt_ev hev] at h3
              cases ev with
              | do_ s => cases h3
              | say l g t => cases h3
              | hear l => exact absurd rfl hw
            · exact .inr ⟨p, h1, by omega, h3⟩
    · rw [List.length_map, List.length_range] at hz
      obtain ⟨g1, g2, g3⟩ := hz
      refine n_fg [4, 5, 6, 7, 8] (li ls2 ⟨fun l => ?_, g2, by omega⟩ rfl rfl)
      rw [g1, hls.1]
      constructor
      · rintro (⟨h', k1, k2⟩ | ⟨p, h1, h2, h3⟩)
        · exact ⟨h', by omega, k2⟩
        · exact ⟨h, Nat.lt_succ_self _, p, h3, (hb p (by omega)).mp h1, (ine p).mp (by omega)⟩
      · rintro ⟨h', k1, p, k2, k3, k4⟩
        by_cases e2 : h' = h
        · subst e2
          have hp : p < e := (ine p).mpr k4
          exact .inr ⟨p, (hb p (by omega)).mpr k3, by have := (hb p (by omega)).mpr k3; omega, k2⟩
        · exact .inl ⟨h', by omega, p, k2, k3, k4⟩
  · rw [enum_len, List.length_map] at hls
    refine n_frz (i := 3) (j := 0) rfl rfl (n_ret (EN.lx (en_bi1 (e_var rfl) bin_sorted)) fun v H G z1 z2 z3 z4 => ?_)
    obtain ⟨ms, ⟨m1, m2⟩, m3⟩ := z4
    have nd : ms.Nodup := m1.nodup_iff.mpr hls.2.1
    refine q v H G z1 z2 z3 ⟨ms, ⟨(m2.and nd).imp fun h => by omega, fun l => ?_, ?_⟩, m3⟩
    · rw [m1.mem_iff, hls.1]
      rfl
    · rw [m1.length_eq]
      have := hls.2.2
      omega
end
end K89
set_option Elab.async false
set_option linter.all false
set_option maxRecDepth 100000
set_option maxHeartbeats 4000000
/-! K89W17: rows are drawn. -/
namespace K89
open PySem PySem.Spec PyProof.Rows L2
section
variable {F B : Hp} {Γ : Gam} {M : List Mut1} {ta tb te tx ty tz : TE} {tt : TT} {t u t3 : Ty} {ts : List Ty} {K : PySem.W.Frag} {p : Addr} {nx bk ct : L2.St → Hp → Prop} {rt : VK} {P : L2.St → Hp → Prop} {g : TG} {m2 : MTy}
/-- [[] for ..]: so many new lists of ours -/
def ENs (te : TE) (Γ : Gam) (M : List Mut1) (n : Nat) : Prop := ∀ F B σ H G, Hs F B M H G → Sl Γ σ G → ∀ Q : VK, (∀ (ps : List Addr) H' G' v, ps.length = n → Hs F B (ps.map (fun p => (p, mL [])) ++ M) H' G' → Er G G' → (tL (ps.map tR)).at_ v G' → Q v H') → te σ H Q
theorem en_lists {wi : TI} {vs : List Nat} (hs : Src wi Γ M ts) (hz : ts.length ≤ 50000) (step : ∀ t, t ∈ ts → ∃ Γ2, TgC g t vs (wip Γ vs) Γ2) : ENs (tLc wi g tYes (tLst tNil) vs) Γ M ts.length := fun F B σ H G s gm Q q => by
  refine hs F B σ H G s gm _ fun J1 H' G' s' e' ok D hD => ?_
  obtain ⟨Gd, Y, w, hG, hY⟩ := ok.ok
  refine lc_it w (fun i H => ∃ (ps : List Addr) (G2 : Hp), ps.length = i ∧ Hs F G' ((D, mL (ps.map tR)) :: (ps.map (fun p => (p, mL [])) ++ M)) H G2) ⟨[], G', rfl, s'.here.newM hD ⟨[], rfl, trivial⟩⟩ ?_ ?_ ?_
  · rintro i H2 _ ⟨ps, G2, _, s2⟩
    exact hG H2 (s2.eb.trans s2.er)
  · rintro i x H2 H3 hi ⟨ps, G2, hl, s2⟩ y
    have ht : ts[i]? = some ts[i] := List.getElem?_eq_getElem hi
    obtain ⟨G3, a1, a2, a3, a4⟩ := hY i _ x H2 H3 G2 ht s2.eb s2.er y
    have s3 := s2.frm a1 a2 a3
    obtain ⟨Γ2, b1⟩ := step _ (List.getElem_mem hi)
    have g3 : Sl (wip Γ vs) (wipe σ vs) G3 := ((gm.mono e').mono (s2.eb.trans a1)).wip vs
    refine b1 (wipe σ vs) H3 G3 x g3 s3.er a4 _ fun σ2 hw g4 => ⟨?_, ?_⟩
    · rw [hw]
      exact wipe_wipe σ vs
    · show (([] : List V).length ≤ sizeLine ∧ ∀ r, H3 r = none → _)
      refine ⟨Nat.zero_le _, fun r hr => ?_⟩
      have s4 := s3.newM (p := r) (o := .lst []) (m := mL []) hr ⟨[], rfl, trivial⟩
      have s5 := s4.perm (List.Perm.swap (D, mL (ps.map tR)) (r, mL []) (ps.map (fun p => (p, mL [])) ++ M)).symm
      obtain ⟨z1, z2, o, z3, ws, z4, z5⟩ := s5.mm D _ (List.mem_cons_self ..)
      subst z4
      have wl : ws.length = i := by rw [z5.length, List.length_map, hl]
      refine ⟨ws, z3, sz6 (by omega), ps ++ [r], G3, by rw [List.length_append, hl] <;> rfl, ?_⟩
      have s6 := s5.write (m' := mL ((ps ++ [r]).map tR)) (o := .lst (ws ++ [.ref r])) ⟨_, rfl, by rw [List.map_append]; exact z5.append ⟨rfl, trivial⟩⟩
      refine s6.perm (List.Perm.cons _ ?_)
      rw [List.map_append, List.append_assoc]
      exact List.perm_middle
  · rintro H2 ⟨ps, G2, hl, s2⟩
    obtain ⟨z1, z2, o, z3, ws, z4, z5⟩ := s2.mm D _ (List.mem_cons_self ..)
    subst z4
    obtain ⟨s3, e3⟩ := s2.frz0 z3
    exact q ps H2 _ _ hl (s3.base s'.eb) (e'.trans (s2.eb.trans e3)) ⟨D, ws, rfl, upd_same, z5.mono e3⟩
/-- a, b, c = [[] for ..], new, e -/
theorem n_rows3 {n i j l : Nat} (h1 : ENs tx Γ M n) (h2 : ∀ ps : List Addr, ps.length = n → EN ty Γ (ps.map (fun p => (p, mL [])) ++ M) m2) (h3 : ∀ (ps : List Addr) q, ps.length = n → K89.E tz Γ ((q, m2) :: (ps.map (fun p => (p, mL [])) ++ M)) t3)
    (k : ∀ (ps : List Addr) q, ps.length = n → N nx F B (((Γ.set i (some (tL (ps.map tR)))).set j (some (tR q))).set l (some t3)) ((q, m2) :: (ps.map (fun p => (p, mL [])) ++ M))) :
    N (tPar3 i j l (tCons tx (tCons ty (tCons tz tNil))) ⟨nx, rt, bk, ct⟩) F B Γ M := fun σ H G s gm => by
  refine h1 F B σ H G s gm _ fun ps H1 G1 v1 hl s1 e1 a1 => h2 ps hl F B σ H1 G1 s1 (gm.mono e1) _ fun q H2 G2 s2 e2 => h3 ps q hl F B σ H2 G2 s2 ((gm.mono e1).mono e2) _ fun v3 H3 G3 s3 e3 a3 => ⟨_, _, _, rfl, ?_⟩
  have ee := e2.trans e3
  exact k ps q hl _ _ _ s3 ((((gm.mono (e1.trans ee)).set ((tL (ps.map tR)).mono ee a1) i).set rfl j).set a3 l)
/-- a, b, c = x, y, z, the first a new object that is frozen at once -/
theorem n_par3 {t1 t2 : Ty} {i j l : Nat} {tas : TA} (h : EA tas Γ M [t1, t2, t3]) (k : N nx F B (((Γ.set i (some t1)).set j (some t2)).set l (some t3)) M) : N (tPar3 i j l tas ⟨nx, rt, bk, ct⟩) F B Γ M := fun σ H G s g =>
  h F B σ H G s g _ fun vs H1 G1 s1 e1 a1 => by
    match vs, a1 with
    | [v, w, u], a1 => exact ⟨v, w, u, rfl, k _ H1 G1 s1 ((((g.mono e1).set a1.1 i).set a1.2.1 j).set a1.2.2.1 l)⟩
/-- the rows under way -/
def rowsM (ps : List Addr) (rs : List Row) : List Mut1 := (ps.zip rs).map fun z => (z.1, mL (z.2.map tEv))
theorem rowsM_len {ps : List Addr} {rs : List Row} (h : ps.length = rs.length) : (rowsM ps rs).length = rs.length := by
  unfold rowsM
  rw [List.length_map, List.length_zip, h, Nat.min_self]
theorem rowsM_at {ps : List Addr} {rs : List Row} {h : Nat} {a : Addr} {r : Row} (h1 : ps[h]? = some a) (h2 : rs[h]? = some r) : (rowsM ps rs)[h]? = some (a, mL (r.map tEv)) := by
  unfold rowsM
  rw [List.getElem?_map, (List.getElem?_zip_eq_some (z := (a, r))).mpr ⟨h1, h2⟩] <;> rfl
theorem rowsM_set {e : Ev} : ∀ {ps : List Addr} {rs : List Row} {h : Nat} {a : Addr} {r : Row}, ps[h]? = some a → rs[h]? = some r → (rowsM ps rs).set h (a, mL (r.map tEv ++ [tEv e])) = rowsM ps (app rs h e)
  | [], _, _, _, _, h1, _ => by simp at h1
  | _, [], _, _, _, _, h2 => by simp at h2
  | q :: ps, s :: rs, 0, a, r, h1, h2 => by
    simp at h1 h2
    subst h1 h2
    show (q, _) :: rowsM ps rs = (q, mL ((s ++ [e]).map tEv)) :: rowsM ps rs
    rw [List.map_append]
    rfl
  | q :: ps, s :: rs, h + 1, a, r, h1, h2 => by
    have := rowsM_set (e := e) (ps := ps) (rs := rs) (h := h) (by simpa using h1) (by simpa using h2)
    show (q, _) :: (rowsM ps rs).set h _ = (q, _) :: rowsM ps _
    rw [this]
    rfl
theorem rowsM_nil : ∀ (ps : List Addr), rowsM ps (List.replicate ps.length []) = ps.map fun p => (p, mL [])
  | [] => rfl
  | p :: ps => by
    show (p, mL []) :: rowsM ps (List.replicate ps.length []) = _
    rw [rowsM_nil ps]
    rfl
/-- all of them frozen -/
theorem Hs.frzRows {H G : Hp} {R : List Mut1} : ∀ {ps : List Addr} {rs : List Row}, ps.length = rs.length → Hs F B (rowsM ps rs ++ R) H G → ∃ G', Hs F B R H G' ∧ Er G G' ∧ At (rs.map (tRow false)) (ps.map V.ref) G'
  | [], [], _, s => ⟨G, s, Er.refl G, trivial⟩
  | p :: ps, r :: rs, hl, s => by
    have s0 : Hs F B ((p, mL (r.map tEv)) :: (rowsM ps rs ++ R)) H G := s
    obtain ⟨_, _, o, h3, vs, h4, h5⟩ := s0.mm p _ (List.mem_cons_self ..)
    subst h4
    obtain ⟨s1, e1⟩ := s0.frz0 h3
    obtain ⟨G', s2, e2, a2⟩ := Hs.frzRows (ps := ps) (rs := rs) (by simpa using hl) s1
    exact ⟨G', s2, e1.trans e2, ⟨p, vs, rfl, e2 _ _ upd_same, h5.mono (e1.trans e2)⟩, a2⟩
  | [], _ :: _, hl, _ => by cases hl
  | _ :: _, [], hl, _ => by cases hl
theorem refs_at {G : Hp} : ∀ {ps : List Addr} {vs : List V}, At (ps.map tR) vs G → vs = ps.map V.ref
  | [], [], _ => rfl
  | p :: ps, v :: vs, h => by
    have e : v = .ref p := h.1
    rw [e, refs_at (ps := ps) h.2] <;> rfl
  | [], _ :: _, h => h.elim
  | _ :: _, [], h => h.elim
theorem n_frzRows {ps : List Addr} {rs : List Row} {R : List Mut1} {i : Nat} (hl : ps.length = rs.length) (hi : Γ[i]? = some (some (tL (ps.map tR)))) (k : N P F B (Γ.set i (some (tRows false rs))) R) : N P F B Γ (rowsM ps rs ++ R) := fun σ H G s g => by
  obtain ⟨G', s', e', a'⟩ := Hs.frzRows hl s
  obtain ⟨v, g1, b, vs, rfl, eb, av⟩ := g.get hi
  have ev := refs_at av
  subst ev
  exact k σ H G' s' ((g.mono e').ty g1 ⟨b, _, rfl, e' _ _ eb, a'⟩)
end
/-- what is drawn so far -/
structure Drn (n i : Nat) (rs : List Row) (way : List (Nat × Nat)) (sp : Nat) : Prop where
  len : rs.length = n
  good : Good rs
  tot : (evs 0 rs).length ≤ i
  sp_ : sp ≤ 9 + 3 * i
  low : ∀ h p l g t, evAt rs h p = some (.say l g t) → l < sp
  way_ : ∀ z ∈ way, (∃ h p t, evAt rs h p = some (.say z.1 z.2 t)) ∧ ∀ h p, evAt rs h p ≠ some (.hear z.1)
  wl : way.length ≤ i
theorem evs_app {rs : List Row} {k : Nat} {e : Ev} (hk : k < rs.length) : (evs 0 (app rs k e)).length = (evs 0 rs).length + 1 := by
  rw [evs_len_sum, evs_len_sum]
  have h1 : sizes (app rs k e) = (sizes rs).set k (sz rs k + 1) := by
    unfold sizes app
    rw [List.map_set, List.length_append]
    rfl
  rw [h1]
  exact sum_set (sizes_at hk)
theorem Drn.start {n sp : Nat} (h : sp ≤ 9) : Drn n 0 (List.replicate n []) [] sp := by
  have no : ∀ h p, evAt (List.replicate n ([] : Row)) h p = none := fun h p => by
    unfold evAt
    rw [List.getElem?_replicate]
    split <;> rfl
  have s0 : ∀ h, sz (List.replicate n ([] : Row)) h = 0 := fun h => by
    unfold sz
    rw [List.getD_eq_getElem?_getD, List.getElem?_replicate]
    split <;> rfl
  refine ⟨by simp, ⟨?_, ?_, ?_, ?_, ?_, ?_⟩, ?_, by omega, ?_, (fun z hz => by cases hz), Nat.le_refl _⟩
  · intro h p h' p' l q
    unfold letAt at q
    rw [no] at q
    cases q
  · intro h p h' p' l q
    unfold letAt at q
    rw [no] at q
    cases q
  · intro h p e q
    rw [no] at q
    cases q
  · intro h p l q
    rw [no] at q
    cases q
  · rintro c hc ⟨h, hh⟩
    rw [s0] at hh
    omega
  · intro h p l g t q
    rw [no] at q
    cases q
  · rw [evs_len_sum]
    unfold sizes
    rw [List.map_replicate]
    simp
  · intro h p l g t q
    rw [no] at q
    cases q
end K89
set_option Elab.async false
set_option linter.all false
set_option maxRecDepth 100000
set_option maxHeartbeats 4000000
/-! K89W18: rows are drawn, turn by turn. -/
namespace K89
open PySem PySem.Spec PyProof.Rows L2
theorem Drn.do_ {n i sp h : Nat} {rs : List Row} {way : List (Nat × Nat)} {s : Str} (d : Drn n i rs way sp) (hh : h < n) (hs : TextOk s) : Drn n (i + 1) (app rs h (.do_ s)) way sp := by
  have hk : h < rs.length := by rw [d.len]; exact hh
  refine ⟨by rw [app_len, d.len], app_good hk d.good hs (fun l g t e => by cases e) (fun l e => by cases e), by rw [evs_app hk]; have := d.tot; omega, by have := d.sp_; omega, fun h' p l g t q => ?_, fun z hz => ?_, by have := d.wl; omega⟩
  · rcases app_get hk q with ⟨_, _, e⟩ | e
    · cases e
    · exact d.low _ _ _ _ _ e
  · obtain ⟨⟨h', p, t, e⟩, no⟩ := d.way_ z hz
    refine ⟨⟨h', p, t, app_old hk e⟩, fun h2 p2 q => ?_⟩
    rcases app_get hk q with ⟨_, _, e⟩ | e
    · cases e
    · exact no _ _ e
theorem Drn.say {n i sp sp' h g : Nat} {rs : List Row} {way : List (Nat × Nat)} {t : Str} (d : Drn n i rs way sp) (hi : i ≤ 100) (hh : h < n) (hg : g < n) (ne : g ≠ h) (ht : TextOk t) (h1 : sp < sp') (h2 : sp' ≤ sp + 3) : Drn n (i + 1) (app rs h (.say sp g t)) (way ++ [(sp, g)]) sp' := by
  have hk : h < rs.length := by rw [d.len]; exact hh
  have spi := d.sp_
  refine ⟨by rw [app_len, d.len], app_good hk d.good ⟨by rw [d.len]; exact hg, ne, ht⟩ (fun l g' t' e => ?_) (fun l e => by cases e), by rw [evs_app hk]; have := d.tot; omega, by omega, fun h' p l g' t' q => ?_, fun z hz => ?_, by rw [List.length_append]; exact Nat.succ_le_succ d.wl⟩
  · cases e
    refine ⟨by omega, fun h' p g' t' q => ?_⟩
    have := d.low _ _ _ _ _ q
    omega
  · rcases app_get hk q with ⟨_, _, e⟩ | e
    · cases e
      exact h1
    · have := d.low _ _ _ _ _ e
      omega
  · rcases List.mem_append.mp hz with hz | hz
    · obtain ⟨⟨h', p, t', e⟩, no⟩ := d.way_ z hz
      refine ⟨⟨h', p, t', app_old hk e⟩, fun h2 p2 q => ?_⟩
      rcases app_get hk q with ⟨_, _, e⟩ | e
      · cases e
      · exact no _ _ e
    · rw [List.mem_singleton.mp hz]
      refine ⟨⟨h, sz rs h, t, by rw [app_at hk, if_pos ⟨rfl, rfl⟩]⟩, fun h2 p2 q => ?_⟩
      rcases app_get hk q with ⟨_, _, e⟩ | e
      · cases e
      · obtain ⟨h3, p3, t3, e3⟩ := d.good.heard _ _ _ e
        have := d.low _ _ _ _ _ e3
        omega
theorem Drn.hear {n i sp h l : Nat} {rs : List Row} {way : List (Nat × Nat)} (d : Drn n i rs way sp) (hh : h < n) (hw : (l, h) ∈ way) : Drn n (i + 1) (app rs h (.hear l)) (way.filter fun z => decide (z.1 ≠ l)) sp := by
  have hk : h < rs.length := by rw [d.len]; exact hh
  obtain ⟨⟨h0, p0, t0, e0⟩, no⟩ := d.way_ _ hw
  refine ⟨by rw [app_len, d.len], app_good hk d.good trivial (fun l g t e => by cases e) (fun l' e => ?_), by rw [evs_app hk]; have := d.tot; omega, by have := d.sp_; omega, fun h' p l' g t q => ?_, fun z hz => ?_, by have := d.wl; have := List.length_filter_le (fun z : Nat × Nat => decide (z.1 ≠ l)) way; omega⟩
  · cases e
    exact ⟨no, h0, p0, t0, e0⟩
  · rcases app_get hk q with ⟨_, _, e⟩ | e
    · cases e
    · exact d.low _ _ _ _ _ e
  · obtain ⟨m1, m2⟩ := List.mem_filter.mp hz
    have ne : z.1 ≠ l := of_decide_eq_true m2
    obtain ⟨⟨h', p, t, e⟩, no'⟩ := d.way_ z m1
    refine ⟨⟨h', p, t, app_old hk e⟩, fun h2 p2 q => ?_⟩
    rcases app_get hk q with ⟨_, _, e⟩ | e
    · cases e
      exact ne rfl
    · exact no' _ _ e
section
variable {F B : Hp} {Γ : Gam} {M : List Mut1} {ta tb te : TE} {K : PySem.W.Frag} {p : Addr} {β : Type} {φ : β → Prop}
theorem srcx_range1 {tas : TA} {f : β → Nat} (h : EA tas Γ M [tEx φ fun y => tn (f y)]) (hn : ∀ y, φ y → f y ≤ 100000) : SrcX (iRng1 tas) Γ M φ (fun y => (List.range (f y)).map tn) := fun F B σ H G s g R q => h F B σ H G s g _ fun vs H' G' s' e' a => by
  match vs, a with
  | [v], a =>
    obtain ⟨y, hy, a'⟩ := a.1
    have a2 : v = .int (f y : Int) := a'
    subst a2
    have hn' := hn y hy
    refine ⟨(f y : Int), rfl, by omega, by omega, q _ H' G' y hy s' e' ⟨fun _ => True, YFn fun i => .int (0 + i), ?_, fun _ _ => trivial, fun i t x H1 H2 G1 hi e1 e2 yy => ?_⟩⟩
    · have w := walk_range (lo := 0) (n := f y)
      rw [List.length_map, List.length_range]
      have e0 : ((f y : Int)).toNat = f y := by omega
      rw [e0]
      exact w
    · obtain ⟨rfl, rfl⟩ := yy
      rw [range_at hi]
      exact ⟨G1, Er.refl _, e2, Frm.refl _ _, by show V.int (0 + (i : Int)) = V.int (i : Int); rw [Int.zero_add]⟩
/-- xs != [] -/
theorem e_neNil {ns : List Nat} (ha : K89.E ta Γ M (tL (ns.map tn))) : K89.E (tOp (rNeD K) ta (tLst tNil)) Γ M (tB (!ns.isEmpty)) := fun F B σ H G s g Q q =>
  ha F B σ H G s g _ fun v1 H1 G1 s1 e1 a1 => (EN.l (en_lst (M := M) (Γ := Γ) (ta := tNil) ea_nil (by decide))) F B σ H1 G1 s1 (g.mono e1) _ fun v2 H2 G2 s2 e2 a2 => by
    obtain ⟨a, vs, rfl, ea, av⟩ := a1
    obtain ⟨b, ws, rfl, eb, aw⟩ := a2
    have ew : ws = [] := List.eq_nil_of_length_eq_zero aw.length
    subst ew
    rw [nats_at av] at ea
    have dp : ∀ ms : List Nat, DpAll K H2 ((ms.map fun n => ((n : Nat) : Int)).map V.int) (ms.map fun n => PyData.int ((n : Nat) : Int)) := by
      intro ms
      induction ms with
      | nil => exact .nil
      | cons m ms ih => exact .cons (.int _) ih
    have sh : ∀ ms : List Nat, PyData.canLayAll0 (ms.map fun n => PyData.int ((n : Nat) : Int)) = true ∧ PyData.depthAll (ms.map fun n => PyData.int ((n : Nat) : Int)) ≤ 4 := by
      intro ms
      induction ms with
      | nil => exact ⟨rfl, by decide⟩
      | cons m ms ih =>
        simp only [List.map_cons, PyData.canLayAll0, PyData.depthAll, PyData.canLay0, PyData.depth]
        refine ⟨by rw [ih.1] <;> rfl, by have := ih.2; omega⟩
    refine ⟨.list (ns.map fun n => PyData.int ((n : Nat) : Int)), .list [], .lst (SqL.of (s2.er _ _ (e2 _ _ ea))) (dp ns), .lst (SqL.of (s2.er _ _ eb)) .nil, ?_, by decide, q _ H2 G2 s2 (e1.trans e2) ?_⟩
    · show ((PyData.list _).canLay0 && decide ((PyData.list _).depth ≤ 64)) = true
      rw [Bool.and_eq_true]
      refine ⟨by simp only [PyData.canLay0]; exact (sh ns).1, decide_eq_true ?_⟩
      simp only [PyData.depth]
      have := (sh ns).2
      omega
    · show V.bl _ = V.bl _
      congr 2
      cases ns with
      | nil => simp [PyData.eqv, PyData.eqvAll]
      | cons n ns => simp [PyData.eqv, PyData.eqvAll]
end
end K89
set_option Elab.async false
set_option linter.all false
set_option maxRecDepth 100000
set_option maxHeartbeats 4000000
/-! K89W19: rows are drawn, the walk. -/
namespace K89
open PySem PySem.Spec PyProof.Rows L2
section
variable {F B : Hp} {Γ : Gam} {M : List Mut1} {ta tb tc te : TE} {t u : Ty} {ts us : List Ty} {K : PySem.W.Frag} {p : Addr} {m : MTy} {nx bk ct : L2.St → Hp → Prop} {rt : VK} {β : Type} {φ : β → Prop}
/-- types that don't lean on a list -/
def NoLs (t : Ty) : Prop := ∀ v G p vs, G p = some (.lst vs) → t.at_ v G → t.at_ v (rem G p)
def NoLsM (m : MTy) : Prop := ∀ o G p vs, G p = some (.lst vs) → m.at_ o G → m.at_ o (rem G p)
theorem nl_pr {x : Nat × Nat} : NoLs (tPr x) := fun v G p vs e ⟨a, ws, e1, e2, e3⟩ => by
  refine ⟨a, ws, e1, ?_, flat_At (fun t ht => by
    simp only [List.mem_cons, List.not_mem_nil, or_false] at ht
    rcases ht with rfl | rfl <;> exact flat_V) e3⟩
  rw [rem_ne]
  · exact e2
  · intro z
    subst z
    rw [e] at e2
    cases e2
theorem nl_At {G : Hp} {p : Addr} {vs : List V} (e : G p = some (.lst vs)) : ∀ {ts : List Ty} {ws : List V}, (∀ t ∈ ts, NoLs t) → At ts ws G → At ts ws (rem G p)
  | [], [], _, h => h
  | t :: ts, w :: ws, k, h => ⟨k t (List.mem_cons_self ..) w G p vs e h.1, nl_At e (fun u hu => k u (List.mem_cons_of_mem _ hu)) h.2⟩
  | [], _ :: _, _, h => h.elim
  | _ :: _, [], _, h => h.elim
theorem nlM_L (h : ∀ t ∈ ts, NoLs t) : NoLsM (mL ts) := fun o G p vs e ⟨ws, e1, e2⟩ => ⟨ws, e1, nl_At e h e2⟩
theorem EN.focusLs {i j : Nat} (hp : Γ[i]? = some (some (tR p))) (hj : M[j]? = some (p, mL ts)) (h : EN te (Γ.set i (some (tL ts))) [] m) (ht : NoLsM m) : EN te Γ M m := fun F B σ H G s g Q q => by
  obtain ⟨hF, _, o, h3, vs, h4, h5⟩ := s.mm p _ (List.mem_of_getElem? hj)
  subst h4
  have hg : G p = none := (s.mm p _ (List.mem_of_getElem? hj)).2.1
  obtain ⟨a1, a2, a3, a4⟩ := focus_core (t := tL ts) hp hj s g h3 ⟨p, vs, rfl, upd_same, h5.mono (Er.grow hg)⟩
  refine h _ B σ H _ a1 a3 Q fun r H' G' s' e' => ?_
  obtain ⟨k1, k2, o, k3, k4⟩ := s'.mm r m (List.mem_cons_self ..)
  obtain ⟨b1, b2⟩ := a4 s'.tail e'
  have rp : r ≠ p := fun e => by
    subst e
    have := e' r _ upd_same
    rw [k2] at this
    cases this
  have rM : r ∉ M.map (·.1) := fun z => by
    obtain ⟨⟨b, n⟩, z1, z2⟩ := List.mem_map.mp z
    have z3 : b = r := z2
    subst z3
    rcases List.mem_cons.mp ((perm_at hj).mem_iff.mp z1) with z4 | z4
    · cases z4
      exact rp rfl
    · obtain ⟨_, _, o', y3, _⟩ := s.mm _ n z1
      rw [hid_in z4, y3] at k1
      cases k1
  exact q r H' _ ⟨b1.er, b1.eb, b1.fr, fun a n z => by
    rcases List.mem_cons.mp z with z | z
    · cases z
      refine ⟨?_, by rw [rem_ne rp]; exact k2, o, k3, ht _ _ _ vs (e' p _ upd_same) k4⟩
      cases w : F r with
      | none => rfl
      | some u =>
        rw [hid_out (s.perm (perm_at hj).symm |>.tail) w] at k1
        cases k1
    · exact b1.mm a n z, List.nodup_cons.mpr ⟨rM, s.nd⟩⟩ b2
/-- xs.append(e), e known by a property -/
theorem n_appX {f : β → Ty} {j : Nat} (hj : M[j]? = some (p, mL ts)) (ha : K89.E ta Γ M (tR p)) (h : K89.E te Γ M (tEx φ f)) (hz : ts.length < 100000) (k : ∀ y, φ y → N nx F B Γ (M.set j (p, mL (ts ++ [f y])))) :
    N (tDrop (tBM K "list" rAppend ta (tCons te tNil)) ⟨nx, rt, bk, ct⟩) F B Γ M := fun σ H G s g => ha F B σ H G s g _ fun v1 H1 G1 s1 e1 a1 => by
  have a1' : v1 = .ref p := a1
  subst a1'
  obtain ⟨_, _, o, h3, vs, h4, h5⟩ := s1.mm p _ (List.mem_of_getElem? hj)
  subst h4
  refine ⟨Or.inl ⟨rfl, vs, SqL.of h3⟩, h F B σ H1 G1 s1 (g.mono e1) _ fun v2 H2 G2 s2 e2 a2 => ?_⟩
  obtain ⟨_, _, o, k3, ws, k4, k5⟩ := s2.mm p _ (List.mem_of_getElem? hj)
  subst k4
  obtain ⟨y, hy, a2⟩ := a2
  exact ⟨p, ws, v2, rfl, rfl, k3, sz6 (by rw [k5.length]; exact hz), k y hy _ _ G2 (s2.put hj ⟨_, rfl, k5.append ⟨a2, trivial⟩⟩) ((g.mono e1).mono e2)⟩
/-- a tuple whose last item is known by a property -/
theorem at_last {f : β → Ty} {G : Hp} : ∀ {ts : List Ty} {vs : List V}, At (ts ++ [tEx φ f]) vs G → ∃ y, φ y ∧ At (ts ++ [f y]) vs G
  | [], [v], h => let ⟨y, hy, hv⟩ := h.1; ⟨y, hy, hv, trivial⟩
  | [], [], h => h.elim
  | [], _ :: _ :: _, h => h.2.elim
  | t :: ts, v :: vs, h => let ⟨y, hy, hv⟩ := at_last h.2; ⟨y, hy, h.1, hv⟩
  | _ :: _, [], h => h.elim
theorem e_tupLX {f : β → Ty} {tas : TA} (h : EA tas Γ M (ts ++ [tEx φ f])) (hl : ts.length ≤ 1000) : K89.E (tTup tas) Γ M (tEx φ fun y => tT (ts ++ [f y])) := (e_tup h (by rw [List.length_append]; show _ + 1 ≤ 100000; omega)).imp fun v G a => by
  obtain ⟨b, vs, rfl, eb, av⟩ := a
  obtain ⟨y, hy, hv⟩ := at_last av
  exact ⟨y, hy, b, vs, rfl, eb, hv⟩
end
abbrev rwM (q : Addr) (way : List (Nat × Nat)) (ps : List Addr) (rs : List Row) (p : Addr) : List Mut1 := (q, mL (way.map tPr)) :: (rowsM ps rs ++ [(p, mPot)])
theorem pot_at {q p : Addr} {way : List (Nat × Nat)} {ps : List Addr} {rs : List Row} (h : ps.length = rs.length) : (rwM q way ps rs p)[rs.length + 1]? = some (p, mPot) := by
  show (rowsM ps rs ++ [(p, mPot)])[rs.length]? = _
  rw [List.getElem?_append_right (by rw [rowsM_len h]; exact Nat.le_refl _), rowsM_len h, Nat.sub_self] <;> rfl
theorem row_in {q p a : Addr} {way : List (Nat × Nat)} {ps : List Addr} {rs : List Row} {h : Nat} {r : Row} (h1 : ps[h]? = some a) (h2 : rs[h]? = some r) : (rwM q way ps rs p)[h + 1]? = some (a, mL (r.map tEv)) := by
  show (rowsM ps rs ++ [(p, mPot)])[h]? = _
  have e := rowsM_at h1 h2
  rw [List.getElem?_append_left (List.getElem?_eq_some_iff.mp e).1]
  exact e
theorem row_put {q p a : Addr} {way : List (Nat × Nat)} {ps : List Addr} {rs : List Row} {h : Nat} {r : Row} {e : Ev} (h1 : ps[h]? = some a) (h2 : rs[h]? = some r) : (rwM q way ps rs p).set (h + 1) (a, mL (r.map tEv ++ [tEv e])) = rwM q way ps (app rs h e) p := by
  show _ :: (rowsM ps rs ++ [(p, mPot)]).set h _ = _
  have e1 := rowsM_at h1 h2
  rw [List.set_append_left _ _ (List.getElem?_eq_some_iff.mp e1).1, rowsM_set h1 h2]
theorem pickN {ns : List Nat} : ∀ v G, (tEx (fun t : Ty => t ∈ ns.map tn) fun t => t).at_ v G → (tEx (fun n => n ∈ ns) tn).at_ v G := fun v G ⟨t, ht, h⟩ => by
  obtain ⟨n, hn, rfl⟩ := List.mem_map.mp ht
  exact ⟨n, hn, h⟩
theorem pickS {ss : List Str} : ∀ v G, (tEx (fun t : Ty => t ∈ ss.map tS) fun t => t).at_ v G → (tEx (fun s => s ∈ ss) tS).at_ v G := fun v G ⟨t, ht, h⟩ => by
  obtain ⟨n, hn, rfl⟩ := List.mem_map.mp ht
  exact ⟨n, hn, h⟩
end K89
set_option Elab.async false
set_option linter.all false
set_option maxRecDepth 100000
set_option maxHeartbeats 4000000
/-! K89W20: rows are drawn, the walk's end. -/
namespace K89
open PySem PySem.Spec PyProof.Rows L2
section
variable {Γ : Gam} {M : List Mut1} {ta tb te : TE} {β : Type} {φ : β → Prop}
theorem e_opCY {C : Int → Int → Prop} {g : Int → Int → V} {f : β → Int} {j : Int} (ha : K89.E ta Γ M (tEx φ fun y => tI (f y))) (hb : K89.E tb Γ M (tI j)) (hc : ∀ y, φ y → C (f y) j) : K89.E (tOp (rI C g) ta tb) Γ M (tEx φ fun y => tV (g (f y) j)) := fun F B σ H G s gm Q q =>
  ha F B σ H G s gm _ fun v1 H1 G1 s1 e1 a1 => hb F B σ H1 G1 s1 (gm.mono e1) _ fun v2 H2 G2 s2 e2 a2 => by
    obtain ⟨y, hy, a1⟩ := a1
    exact ⟨f y, j, a1, a2, hc y hy, q _ H2 G2 s2 (e1.trans e2) ⟨y, hy, rfl⟩⟩
end
theorem goal_ok {n h d : Nat} (hh : h < n) (hd : d < n - 1) : ∃ g : Nat, g < n ∧ g ≠ h ∧ ((h : Int) + 1 + (d : Int)).fmod (n : Int) = (g : Int) := by
  by_cases z : h + 1 + d < n
  · refine ⟨h + 1 + d, z, by omega, ?_⟩
    rw [Int.fmod_eq_emod_of_nonneg _ (by omega), Int.emod_eq_of_lt (by omega) (by omega)]
    omega
  · refine ⟨h + 1 + d - n, by omega, by omega, ?_⟩
    rw [Int.fmod_eq_emod_of_nonneg _ (by omega)]
    have e : (h : Int) + 1 + (d : Int) = ((h + 1 + d - n : Nat) : Int) + (n : Int) := by omega
    rw [e, Int.add_emod_right, Int.emod_eq_of_lt (by omega) (by omega)]
theorem txt3 : ∀ s ∈ (["", "a", "b1"] : List Str), TextOk s := by
  unfold TextOk
  decide +kernel
theorem txt2 : ∀ s ∈ (["", "x"] : List Str), TextOk s := by
  unfold TextOk
  decide +kernel
structure Ra where
  rs : List Row
  way : List (Nat × Nat)
  sp : Nat
  q : Addr
section
variable {P : Program} {w : World} {K : PySem.W.Frag} {mg : Str → Option Value}
theorem f__law_rows (T : En K mg) : Cal P w K mg "_law_rows" 3 ["_law_pot_here", "_law_most"] (spM (fun (_ : Unit) p => [tR p, tn 13]) (fun _ => mPot) (fun _ => mPot) (fun _ => tEx Rs (tRows false))) := by
  have S : FnScope ["_law_pot_here", "_law_most", "_law_many", "_law_rows_here", "_law_way", "_law_spare", "_law_turn", "_law_house", "_law_here", "_law_letter", "_law_goal", "_law_near"] ["_law_pot_here", "_law_most"] d__law_rows.scope := ⟨rfl, rfl, rfl, by decide +kernel, rfl, by decide +kernel, by decide +kernel⟩
  refine Cal.mkM' (n := 10) T 42 36 rfl rfl rfl rfl rfl S rfl (fun _ _ => rfl) (fun _ _ _ _ _ _ us hl => match us, hl with | [_, _], _ => rfl) fun base cdv A outer s H EX hr => ⟨_, (pss_cons (ps_set (i := 2) S.nd rfl (Or.inl rfl) (pe_f (f__law_pick T) hr rfl (pa_cons (pv 0) (pa_cons (pe_lst (pa_cons pe_int (pa_cons pe_int (pa_cons pe_int (pa_cons pe_int (pa_cons pe_int (pa_cons pe_int pa_nil))))))) pa_nil))))
      (pss_cons (ps_par3 (i := 3) (j := 4) (l := 5) rfl S.nd rfl rfl rfl (by decide) (by decide) (by decide) rfl rfl rfl (pa_cons (pe_lc (own := [("_law_house", 7)]) rfl S.nd (pi_range1 rfl T.range (pa_cons (pv 2) pa_nil)) (blkOk_by (own := [("_law_house", 7)]) (N := ["_law_pot_here", "_law_most", "_law_many", "_law_rows_here", "_law_way", "_law_spare", "_law_turn", "_law_house", "_law_here", "_law_letter", "_law_goal", "_law_near"]) (sc := d__law_rows.scope) (by decide +kernel)) (fun _ _ _ _ _ => (pg_name (i := 7) S.nd rfl (Or.inl rfl))) (fun _ _ _ _ _ => pts_nil) (fun _ _ _ _ _ => (pe_lst pa_nil))) (pa_cons (pe_lst pa_nil) (pa_cons (pe_op op_mul pe_int (pe_f (f__law_draw T) (hr.mono (by decide)) rfl (pa_cons (pv 0) (pa_cons pe_int pa_nil)))) pa_nil))) rfl)
      (pss_cons (ps_for PassesOwn.never rfl (pi_range1 rfl T.range (pa_cons (pe_f (f__law_draw T) (hr.mono (by decide)) rfl (pa_cons (pv 0) (pa_cons (pe_op op_add (pv 1) pe_int) pa_nil))) pa_nil)) (pg_name (i := 6) S.nd rfl (Or.inl rfl)) (pss_cons (ps_set (i := 7) S.nd rfl (Or.inr rfl) (pe_f (f__law_draw T) (hr.mono (by decide)) rfl (pa_cons (pv 0) (pa_cons (pv 2) pa_nil))))
      (pss_cons (ps_setLc (i := 8) (own := [("_law_letter", 9), ("_law_goal", 10)]) rfl S.nd rfl rfl (sw_true rfl rfl rfl (by decide +kernel)) (pi_list (pv 4)) (blkOk_by (own := [("_law_letter", 9), ("_law_goal", 10)]) (N := ["_law_pot_here", "_law_most", "_law_many", "_law_rows_here", "_law_way", "_law_spare", "_law_turn", "_law_house", "_law_here", "_law_letter", "_law_goal", "_law_near"]) (sc := d__law_rows.scope) (by decide +kernel)) (fun _ _ _ _ _ => (pg_tupK (K := K) (n := 2) rfl rfl (pgs_cons (pg_name (i := 9) S.nd rfl (Or.inl rfl)) (pgs_cons (pg_name (i := 10) S.nd rfl (Or.inl rfl)) pgs_nil)))) (fun _ _ _ _ _ => (pts_one (pt_cmpR op_eq (pv 10) (pv 7) (nomark _)))) (fun _ _ _ _ _ => (pv 9)))
      (pss_one (ps_if (PW.pt (pw_and (pt_cmpR (op_neD hr.units) (pv 8) (pe_lst pa_nil) (nomark _)) (pw_and1 (pt_cmpR op_gt (pe_f (f__law_draw T) (hr.mono (by decide)) rfl (pa_cons (pv 0) (pa_cons pe_int pa_nil))) pe_int (nomark _))))) (pss_cons (ps_set (i := 9) S.nd rfl (Or.inr rfl) (pe_f (f__law_pick T) hr rfl (pa_cons (pv 0) (pa_cons (pv 8) pa_nil))))
      (pss_cons (ps_expr (pe_bm PySem.F.plainAttrs_list PySem.F.slot_list_append PySem.F.type_list_append mt_append (pe_ix ix_list (pv 3) (pv 7) (fun _ _ => rfl)) (pa_cons (pe_tup (pa_cons pe_str (pa_cons (pv 9) pa_nil))) pa_nil)))
      (pss_one (ps_setLc (i := 4) (own := [("_law_near", 11), ("_law_goal", 10)]) rfl S.nd rfl rfl (sw_true rfl rfl rfl (by decide +kernel)) (pi_list (pv 4)) (blkOk_by (own := [("_law_near", 11), ("_law_goal", 10)]) (N := ["_law_pot_here", "_law_most", "_law_many", "_law_rows_here", "_law_way", "_law_spare", "_law_turn", "_law_house", "_law_here", "_law_letter", "_law_goal", "_law_near"]) (sc := d__law_rows.scope) (by decide +kernel)) (fun _ _ _ _ _ => (pg_tupK (K := K) (n := 2) rfl rfl (pgs_cons (pg_name (i := 11) S.nd rfl (Or.inl rfl)) (pgs_cons (pg_name (i := 10) S.nd rfl (Or.inl rfl)) pgs_nil)))) (fun _ _ _ _ _ => (pts_one (pt_cmpR op_ne (pv 11) (pv 9) (nomark _)))) (fun _ _ _ _ _ => (pe_tup (pa_cons (pv 11) (pa_cons (pv 10) pa_nil)))))))) (pss_one (ps_if (PW.pt (pw_and (pt_cmpR op_gt (pv 2) pe_int (nomark _)) (pw_and1 (pt_cmpR op_gt (pe_f (f__law_draw T) (hr.mono (by decide)) rfl (pa_cons (pv 0) (pa_cons pe_int pa_nil))) pe_int (nomark _))))) (pss_cons (ps_set (i := 10) S.nd rfl (Or.inl rfl) (pe_op op_modN (pe_callTy call_in1 rfl T.int_ bo_int (pa_cons (pe_op op_add (pe_op op_add (pv 7) pe_int) (pe_f (f__law_draw T) (hr.mono (by decide)) rfl (pa_cons (pv 0) (pa_cons (pe_op op_sub (pv 2) pe_int) pa_nil)))) pa_nil)) (pv 2)))
      (pss_cons (ps_expr (pe_bm PySem.F.plainAttrs_list PySem.F.slot_list_append PySem.F.type_list_append mt_append (pe_ix ix_list (pv 3) (pv 7) (fun _ _ => rfl)) (pa_cons (pe_tup (pa_cons pe_str (pa_cons (pv 5) (pa_cons (pv 10) (pa_cons (pe_f (f__law_pick T) hr rfl (pa_cons (pv 0) (pa_cons (pe_lst (pa_cons pe_str (pa_cons pe_str (pa_cons pe_str pa_nil)))) pa_nil))) pa_nil))))) pa_nil)))
      (pss_cons (ps_expr (pe_bm PySem.F.plainAttrs_list PySem.F.slot_list_append PySem.F.type_list_append mt_append (pv 4) (pa_cons (pe_tup (pa_cons (pv 5) (pa_cons (pv 10) pa_nil))) pa_nil)))
      (pss_one (ps_set (i := 5) S.nd rfl (Or.inl rfl) (pe_op op_add (pe_op op_add (pv 5) pe_int) (pe_f (f__law_draw T) (hr.mono (by decide)) rfl (pa_cons (pv 0) (pa_cons pe_int pa_nil))))))))) (pss_one (ps_expr (pe_bm PySem.F.plainAttrs_list PySem.F.slot_list_append PySem.F.type_list_append mt_append (pe_ix ix_list (pv 3) (pv 7) (fun _ _ => rfl)) (pa_cons (pe_tup (pa_cons pe_str (pa_cons (pe_f (f__law_pick T) hr rfl (pa_cons (pv 0) (pa_cons (pe_lst (pa_cons pe_str (pa_cons pe_str pa_nil))) pa_nil))) pa_nil))) pa_nil)))))))))))
      (pss_one (ps_ret (pv 3)))))), ?_⟩
  rintro _ p F B Q q
  refine n_seq (n_asg (t := tEx (fun n => n ∈ [1, 2, 2, 3, 3, 4]) tn) (E.imp (e_fS (j := 0) ⟨[1, 2, 2, 3, 3, 4].map tn, by show 1 ≤ 6; decide, by show 6 ≤ 1000; decide⟩ rfl (ea_cons (e_var rfl) (ea_cons (EN.l (en_lst (ea_cons e_c (ea_cons e_c (ea_cons e_c (ea_cons e_c (ea_cons e_c (ea_cons e_c ea_nil)))))) (by show 6 ≤ 100000; decide))) ea_nil))) pickN) ?_)
  refine n_ex (i := 2) rfl fun n hn => ?_
  have n14 : 1 ≤ n ∧ n ≤ 4 := by
    simp only [List.mem_cons, List.not_mem_nil, or_false] at hn
    omega
  obtain ⟨n1, n4⟩ := n14
  have rl : ((List.range n).map tn).length = n := by rw [List.length_map, List.length_range]
  refine n_seq (n_rows3 (n := ((List.range n).map tn).length) (m2 := mL []) (t3 := tEx (fun d : Nat => d < 4) fun d : Nat => tV (.int (3 * (d : Int)))) (en_lists (src_range1 (ea_cons (e_var rfl) ea_nil) (by omega)) (by omega) fun t ht => ⟨_, tc_name (by decide)⟩) (fun ps hl => en_lst ea_nil (by decide)) (fun ps a hl => ?_) fun ps a hl => ?_)
  · refine e_opCX (i := 3) (f := fun d => d) (φ := fun d : Nat => d < 4) e_c (e_fS (j := n + 1) (⟨4, by decide, by decide⟩ : {n : Nat // 1 ≤ n ∧ n ≤ 1000}) ?_ (ea_cons (e_var rfl) (ea_cons e_c ea_nil))) fun d hd => Or.inl ⟨by decide, by decide⟩
    show (ps.map (fun p => (p, mL [])) ++ [(p, mPot)])[n]? = _
    rw [List.getElem?_append_right (by rw [List.length_map]; omega), List.length_map]
    have : n - ps.length = 0 := by omega
    rw [this]
    rfl
  refine n_ex (i := 5) rfl fun d hd => ?_
  have pl : ps.length = n := by omega
  have e0 : (a, mL []) :: (ps.map (fun p => (p, mL [])) ++ [(p, mPot)]) = rwM a [] ps (List.replicate n []) p := by
    rw [← rowsM_nil ps, pl]
    rfl
  refine N.toM (M' := rwM a [] ps (List.replicate n []) p) ?_ e0
  have pot0 : (rwM a [] ps (List.replicate n []) p)[n + 1]? = some (p, mPot) := by
    have h := pot_at (q := a) (p := p) (way := []) (ps := ps) (rs := List.replicate n []) (by simp [pl])
    rw [List.length_replicate] at h
    exact h
  refine n_seq (n_forX (α := Ra) (srcx_range1 (φ := fun d => d < 14) (f := fun d => d) (ea_cons (e_fS (j := n + 1) (⟨14, by decide, by decide⟩ : {n : Nat // 1 ≤ n ∧ n ≤ 1000}) pot0 (ea_cons (e_var rfl) (ea_cons (e_op0 (i := 13) (j := 1) (e_var rfl) e_c) ea_nil))) ea_nil) fun y hy => by omega)
    (fun _ i x => Drn n i x.rs x.way x.sp) (fun _ x => [some (tR p), some (tn 13), some (tn n), some (tL (ps.map tR)), some (tR x.q), some (tn x.sp), none, none, none, none, none, none]) (fun _ x => rwM x.q x.way ps x.rs p) (fun _ => ⟨List.replicate n [], [], 3 * d, a⟩) (fun y hy => Drn.start (show 3 * d ≤ 9 by omega)) (fun y => ?_) (fun y => rfl) (fun y hy B' eB i t x ht hx => ?_) fun y hy x hx => ?_)
  · show ([some (tR p), some (tn 13), some (tn n), some (tL (ps.map tR)), some (tR a), some (tV (.int (3 * (d : Int)))), none, none, none, none, none, none] : Gam) = _
    have : tV (.int (3 * (d : Int))) = tn (3 * d) := congrArg tI (by omega)
    rw [this]
  · obtain ⟨rs, way, sp, wq⟩ := x
    dsimp only at hx
    have hi : i < 13 := by
      have := (List.getElem?_eq_some_iff.mp ht).1
      simp at this
      omega
    have hlr : rs.length = n := hx.len
    have wl := hx.wl
    have pot := pot_at (q := wq) (p := p) (way := way) (ps := ps) (rs := rs) (by omega)
    rw [hlr] at pot
    have dr {Γ : Gam} {te : TE} {k : Nat} (h1 : 1 ≤ k) (h2 : k ≤ 1000) (h0 : Γ[0]? = some (some (tR p))) (ht : K89.E te Γ (rwM wq way ps rs p) (tn k)) : K89.E (tCall (spM (fun (y : {n : Nat // 1 ≤ n ∧ n ≤ 1000}) p => [tR p, tn y.1]) (fun _ => mPot) (fun _ => mPot) fun y => tEx (fun d => d < y.1) tn) [] E0 (tCons (tVar 0) (tCons te tNil))) Γ (rwM wq way ps rs p) (tEx (fun d => d < k) tn) :=
      e_fS (j := n + 1) ⟨k, h1, h2⟩ pot (ea_cons (e_var h0) (ea_cons ht ea_nil))
    refine tg_name (n_seq (n_asg (dr n1 (by omega) rfl (e_var rfl)) ?_))
    refine n_ex (i := 7) rfl fun h hh => ?_
    obtain ⟨r, hr'⟩ : ∃ r, rs[h]? = some r := ⟨_, List.getElem?_eq_getElem (by omega)⟩
    obtain ⟨ad, had⟩ : ∃ ad, ps[h]? = some ad := ⟨_, List.getElem?_eq_getElem (by omega)⟩
    have rin := row_in (q := wq) (p := p) (way := way) had hr'
    have rl13 : r.length ≤ 100 := by
      have h1 := row_le (k := 0) (List.mem_of_getElem? hr')
      have := hx.tot
      omega
    refine n_seq (n_asg (t := tL ((way.filter fun z : Nat × Nat => decide (z.2 = h)).map fun z => tn z.1)) (EN.l (EN.focusL (i := 4) (j := 0) rfl rfl (en_fil (xs := way) (f := tPr) (u := fun z => tn z.1) (c := fun z => decide (z.2 = h)) (src_list (e_var rfl)) (by omega) fun z hz => ⟨_, tc_2 (by decide) (by decide), et_test ((e_eq (e_var rfl) (e_var rfl) rfl).to (congrArg tB vnat)), fun _ => e_var rfl⟩) (flat_mL fun t ht => by
      obtain ⟨z, _, rfl⟩ := List.mem_map.mp ht
      exact flat_V))) ?_)
    have nsE : ((way.filter fun z : Nat × Nat => decide (z.2 = h)).map fun z => tn z.1) = ((way.filter fun z : Nat × Nat => decide (z.2 = h)).map (·.1)).map tn := by rw [List.map_map] <;> rfl
    rw [nsE]
    have nl : ((way.filter fun z : Nat × Nat => decide (z.2 = h)).map (·.1)).length ≤ 1000 := by
      rw [List.length_map]
      have := List.length_filter_le (fun z : Nat × Nat => decide (z.2 = h)) way
      omega
    have nmem : ∀ l, l ∈ (way.filter fun z : Nat × Nat => decide (z.2 = h)).map (·.1) → (l, h) ∈ way := fun l hl => by
      obtain ⟨z, hz, rfl⟩ := List.mem_map.mp hl
      obtain ⟨m1, m2⟩ := List.mem_filter.mp hz
      have : z.2 = h := of_decide_eq_true m2
      rw [← this]
      exact m1
    generalize hns : (way.filter fun z : Nat × Nat => decide (z.2 = h)).map (·.1) = ns at nl nmem
    have gt {te : TE} {k : Nat} {Γ : Gam} (hd : K89.E te Γ (rwM wq way ps rs p) (tEx (fun d => d < k) tn)) : K89.E (tOp (rI0 fun i j => .bl (decide (i > j))) te (tC (.int 0))) Γ (rwM wq way ps rs p) (tEx (fun _ : Bool => True) tB) := (e_op0Y (f := fun d => d) (j := 0) hd e_c).imp fun v G ⟨d, _, a⟩ => ⟨_, trivial, a⟩
    refine n_if (φ := fun c => c = true → ns ≠ []) (et_andx (b := !ns.isEmpty) (ψ := fun _ => True) (et_test (e_neNil (e_var rfl))) (fun _ => et_testx (gt (dr (by decide) (by decide) rfl e_c))) (fun _ z => nomatch z) fun c hb _ _ => by
      intro e
      rw [e] at hb
      cases hb) (fun hne => ?_) fun _ => ?_
    · have hne' := hne rfl
      have np := List.length_pos_iff.mpr hne'
      refine n_seq (n_asg (t := tEx (fun l => l ∈ ns) tn) (E.imp (e_fS (j := n + 1) (⟨ns.map tn, by rw [List.length_map]; exact np, by rw [List.length_map]; exact nl⟩ : {ts : List Ty // 1 ≤ ts.length ∧ ts.length ≤ 1000}) pot (ea_cons (e_var rfl) (ea_cons (e_var rfl) ea_nil))) pickN) ?_)
      refine n_ex (i := 9) rfl fun l hl => ?_
      refine n_seq (n_app (j := h + 1) (t := tEv (.hear l)) rin (e_ixL (e_var rfl) (e_var rfl) (atI_n (by rw [List.getElem?_map, had] <;> rfl))) (e_tup2 e_c (e_var rfl)) (by rw [List.length_map]; omega) ?_)
      refine N.toM (M' := rwM wq way ps (app rs h (.hear l)) p) ?_ (row_put had hr')
      refine n_asgN (EN.focusLs (i := 4) (j := 0) rfl rfl (en_fil (xs := way) (f := tPr) (u := tPr) (c := fun z => decide (z.1 ≠ l)) (src_list (e_var rfl)) (by omega) fun z hz => ⟨_, tc_2 (by decide) (by decide), et_test ((e_ne (e_var rfl) (e_var rfl) rfl).to ?_), fun _ => e_pr (e_var rfl) (e_var rfl)⟩) (nlM_L fun t ht => ?_)) fun wq2 => ?_
      · refine congrArg tB ?_
        rw [vnat]
        by_cases e : z.1 = l
        · rw [decide_eq_true e, decide_eq_false (fun q => q e)] <;> rfl
        · rw [decide_eq_false e, decide_eq_true e] <;> rfl
      · obtain ⟨z, _, rfl⟩ := List.mem_map.mp ht
        exact nl_pr
      · refine n_sub (rwM wq2 (way.filter fun z => decide (z.1 ≠ l)) ps (app rs h (.hear l)) p) (List.Sublist.cons_cons _ (List.sublist_cons_self ..)) (n_fg [6, 7, 8, 9] (li ⟨_, _, sp, wq2⟩ (hx.hear hh (nmem l hl)) rfl rfl))
    · refine n_if (φ := fun c => c = true → 1 < n) (et_andx (b := decide (1 < n)) (ψ := fun _ => True) (et_test ((e_op0 (i := (n : Int)) (j := 1) (e_var rfl) e_c).to (congrArg tB (decide_eq_decide.mpr (by omega))))) (fun _ => et_testx (gt (dr (by decide) (by decide) rfl e_c))) (fun _ z => nomatch z) fun c hb _ _ => of_decide_eq_true hb) (fun hm => ?_) fun _ => ?_
      · have n2 := hm rfl
        refine n_seq (n_asg (t := tEx (fun g => g < n ∧ g ≠ h) tn) (E.imp (e_opCY (j := (n : Int)) (f := fun d : Nat => (h : Int) + 1 + (d : Int)) (φ := fun d : Nat => d < n - 1) (e_biX (e_op0X (f := fun d : Nat => d) (i := (h : Int) + 1) (e_op0 (e_var rfl) e_c) (dr (k := n - 1) (by omega) (by omega) rfl ((e_op0 (i := (n : Int)) (j := 1) (e_var rfl) e_c).to (congrArg tI (show (n : Int) - 1 = ((n - 1 : Nat) : Int) by omega))))) fun d _ => bi_int) (e_var rfl) fun d _ => by show (n : Int) ≠ 0; omega) fun v G a => ?_) ?_)
        · obtain ⟨d, hd, a⟩ := a
          obtain ⟨g, g1, g2, g3⟩ := goal_ok hh hd
          refine ⟨g, ⟨g1, g2⟩, ?_⟩
          have a' : v = .int (((h : Int) + 1 + (d : Int)).fmod (n : Int)) := a
          rw [a', g3]
          rfl
        · refine n_ex (i := 10) rfl fun g hg => ?_
          refine n_seq (n_appX (j := h + 1) (φ := fun s => s ∈ (["", "a", "b1"] : List Str)) (f := fun s => tEv (.say sp g s)) rin (e_ixL (e_var rfl) (e_var rfl) (atI_n (by rw [List.getElem?_map, had] <;> rfl))) (e_tupLX (ts := [tS "say", tn sp, tn g]) (f := tS) (ea_cons e_c (ea_cons (e_var rfl) (ea_cons (e_var rfl) (ea_cons (E.imp (e_fS (j := n + 1) (⟨(["", "a", "b1"] : List Str).map tS, by show 1 ≤ 3; decide, by show 3 ≤ 1000; decide⟩ : {ts : List Ty // 1 ≤ ts.length ∧ ts.length ≤ 1000}) pot (ea_cons (e_var rfl) (ea_cons (EN.l (en_lst (ea_cons e_c (ea_cons e_c (ea_cons e_c ea_nil))) (by show 3 ≤ 100000; decide))) ea_nil))) pickS) ea_nil)))) (by show 3 ≤ 1000; decide)) (by rw [List.length_map]; omega) fun s hs => ?_)
          refine N.toM (M' := rwM wq way ps (app rs h (.say sp g s)) p) ?_ (row_put had hr')
          refine n_seq (n_app (j := 0) (t := tPr (sp, g)) rfl (e_var rfl) (e_pr (e_var rfl) (e_var rfl)) (by rw [List.length_map]; omega) ?_)
          refine N.toM (M' := rwM wq (way ++ [(sp, g)]) ps (app rs h (.say sp g s)) p) ?_ (congrArg (fun z => (wq, mL z) :: (rowsM ps (app rs h (.say sp g s)) ++ [(p, mPot)])) (List.map_append (f := tPr) (l₁ := way) (l₂ := [(sp, g)])).symm)
          have pot2 := pot_at (q := wq) (p := p) (way := way ++ [(sp, g)]) (ps := ps) (rs := app rs h (.say sp g s)) (by rw [app_len]; omega)
          rw [app_len, hlr] at pot2
          refine n_asg (t := tEx (fun s' => sp < s' ∧ s' ≤ sp + 3) tn) (E.imp (e_op0X (f := fun d : Nat => d) (i := (sp : Int) + 1) (φ := fun d : Nat => d < 3) (e_op0 (e_var rfl) e_c) (e_fS (j := n + 1) (⟨3, by decide, by decide⟩ : {n : Nat // 1 ≤ n ∧ n ≤ 1000}) pot2 (ea_cons (e_var rfl) (ea_cons e_c ea_nil)))) fun v G a => ?_) ?_
          · obtain ⟨d, hd, a⟩ := a
            exact ⟨sp + 1 + d, ⟨by omega, by omega⟩, by
              have a' : v = .int ((sp : Int) + 1 + (d : Int)) := a
              rw [a']
              exact congrArg V.int (show (sp : Int) + 1 + (d : Int) = ((sp + 1 + d : Nat) : Int) by omega)⟩
          · refine n_ex (i := 5) rfl fun s' hs' => ?_
            exact n_fg [6, 7, 8, 9, 10] (li ⟨_, _, s', wq⟩ (hx.say (by omega) hh hg.1 hg.2 (txt3 s hs) hs'.1 hs'.2) rfl rfl)
      · refine n_appX (j := h + 1) (φ := fun s => s ∈ (["", "x"] : List Str)) (f := fun s => tEv (.do_ s)) rin (e_ixL (e_var rfl) (e_var rfl) (atI_n (by rw [List.getElem?_map, had] <;> rfl))) (e_tupLX (ts := [tS "do"]) (f := tS) (ea_cons e_c (ea_cons (E.imp (e_fS (j := n + 1) (⟨(["", "x"] : List Str).map tS, by show 1 ≤ 2; decide, by show 2 ≤ 1000; decide⟩ : {ts : List Ty // 1 ≤ ts.length ∧ ts.length ≤ 1000}) pot (ea_cons (e_var rfl) (ea_cons (EN.l (en_lst (ea_cons e_c (ea_cons e_c ea_nil)) (by show 2 ≤ 100000; decide))) ea_nil))) pickS) ea_nil)) (by show 1 ≤ 1000; decide)) (by rw [List.length_map]; omega) fun s hs => ?_
        refine N.toM (M' := rwM wq way ps (app rs h (.do_ s)) p) ?_ (row_put had hr')
        exact n_fg [6, 7, 8] (li ⟨_, _, sp, wq⟩ (hx.do_ hh (txt2 s hs)) rfl rfl)
  · obtain ⟨rs, way, sp, wq⟩ := x
    dsimp only at hx
    rw [List.length_map, List.length_range] at hx
    have hlr : rs.length = n := hx.len
    refine n_sub (rowsM ps rs ++ [(p, mPot)]) (List.sublist_cons_self ..) (n_frzRows (i := 3) (by omega) rfl ?_)
    refine n_retP (e_var rfl) fun v H G o z1 z2 z3 z4 z5 z6 z7 => q v H G o z1 z2 z3 z4 z5 z6 ⟨rs, ⟨hx.good, ?_, by omega, by omega⟩, z7⟩
    have := hx.tot
    omega
end
end K89
set_option Elab.async false
set_option linter.all false
/-! K89C: the plain law, part two: what the law's own look answers, and what is due. -/
namespace K89
open PySem
theorem let_say {rs : List Row} {h p l : Nat} (q : letAt true rs h p = some l) : ∃ g t, evAt rs h p = some (.say l g t) := by
  unfold letAt at q
  cases z : evAt rs h p with
  | none => rw [z] at q; cases q
  | some e =>
    rw [z] at q
    cases e with
    | do_ s => cases q
    | say l' g t =>
      have q' : (some l' : Option Nat) = some l := q
      cases q'
      exact ⟨g, t, rfl⟩
    | hear l' => cases q
theorem let_hear {rs : List Row} {h p l : Nat} (q : letAt false rs h p = some l) : evAt rs h p = some (.hear l) := by
  unfold letAt at q
  cases z : evAt rs h p with
  | none => rw [z] at q; cases q
  | some e =>
    rw [z] at q
    cases e with
    | do_ s => cases q
    | say l' g t => cases q
    | hear l' =>
      have q' : (some l' : Option Nat) = some l := q
      cases q'
      rfl
theorem car_ne {rs : List Row} (R : Rs rs) {c : Cr} (h : Car rs c) : c.2.2.1 ≠ c.2.1.1 ∧ c.2.2.2 < sz rs c.2.2.1 ∧ c.2.1.2 < sz rs c.2.1.1 ∧ c.2.2.1 < rs.length ∧ c.2.1.1 < rs.length := by
  obtain ⟨l, ⟨a, b⟩, ⟨d, e⟩⟩ := c
  obtain ⟨h1, h2⟩ := h
  dsimp only at h1 h2 ⊢
  obtain ⟨g, t, q1⟩ := let_say h1
  have q2 := let_hear h2
  obtain ⟨h', p', t', q3⟩ := R.good.heard _ _ _ q2
  have q4 : letAt true rs h' p' = some l := by
    unfold letAt
    rw [q3] <;> rfl
  obtain ⟨rfl, rfl⟩ := R.good.u1 _ _ _ _ _ h1 q4
  rw [q1] at q3
  have q5 := Option.some.inj q3
  injection q5 with i1 i2 i3
  subst i2
  have st := R.good.ok _ _ _ q1
  exact ⟨st.2.1, (evAt_lt q2).2, (evAt_lt q1).2, (evAt_lt q2).1, (evAt_lt q1).1⟩
/-- an unwritten letter that is due: another house loses -/
theorem und_one {rs : List Row} (R : Rs rs) {ke ws : List Nat} {h0 l : Nat} (D : DueH rs ke h0 l) (nw : l ∉ ws) {cut : List Nat} (hr : Reach rs ke [h0] ws h0 (cut.getD h0 0)) (cl : Closed rs cut) : ∃ g, g < rs.length ∧ g ≠ h0 ∧ cut.getD g 0 < sz rs g := by
  obtain ⟨p, h1, h2, c, hc, h3, h4⟩ := D
  have hev := let_hear h1
  have hp := (evAt_lt hev).2
  obtain ⟨g1, g2, g3, g4, g5⟩ := car_ne R hc
  obtain ⟨_, b, hb, bb, hbz, hst⟩ := hr
  have bp : b ≤ p := by
    rcases bb with z | z | z
    · exact absurd (List.mem_singleton.mpr rfl) z
    · exact h2 b hb z
    · omega
  have zp : cut.getD h0 0 ≤ p := by
    by_cases z : cut.getD h0 0 ≤ p
    · exact z
    · exact absurd ⟨l, hev, nw⟩ (hst p bp (by omega))
  have k : ClosedAt cut c := cl c hc
  unfold ClosedAt at k
  rw [h3] at k
  exact ⟨c.2.2.1, g4, by rw [← h3]; exact g1, by have := k (by omega); omega⟩
theorem los_one {y : Ly} {b : Bool} (L : LosP y b) {h0 l : Nat} (e : y.fs = [h0]) (hh : h0 < y.rs.length) (D : DueH y.rs (y.ke.getD h0 []) h0 l) (nw : l ∉ y.ws) : b = true := by
  obtain ⟨cut, ⟨zss, z1, z2, z3, z4, _⟩, hb⟩ := L
  have hz := List.getElem?_eq_getElem (l := zss) (by rw [z1]; exact hh)
  have r := (z2 h0 _ hh hz).re _ (z3.mem h0 _ hz)
  rw [e] at r hb
  obtain ⟨g, g1, g2, g3⟩ := und_one y.R D nw r z4
  exact hb.mpr ⟨g, g1, fun m => g2 (List.mem_singleton.mp m), g3⟩
theorem und_other {y : Aq} {us : List (Nat × Nat)} (U : UndP y us) {h0 l : Nat} (e : y.fs = [h0]) (hh : h0 < y.x.rs.length) (D : DueH y.x.rs (y.k.ke.getD h0 []) h0 l) (nw : l ∉ y.ws) : ∃ z ∈ us, z.1 ≠ h0 := by
  obtain ⟨cut, ⟨zss, z1, z2, z3, z4⟩, hb⟩ := U
  have hz := List.getElem?_eq_getElem (l := zss) (by rw [z1]; exact hh)
  have r := (z2 h0 _ hh hz).re _ (z3.mem h0 _ hz)
  rw [e] at r
  obtain ⟨g, g1, g2, g3⟩ := und_one y.x.R D nw r z4
  exact ⟨_, hb g g1 g3, g2⟩
/-- the greatest kept state below the size -/
theorem top_base {size : Nat} {k : List Nat} (o : KeOk size k) (h : 0 < size) : ∃ b ∈ k, b < size ∧ ∀ s ∈ k, s < size → s ≤ b := by
  have key : ∀ xs : List Nat, (∃ a ∈ xs, a < size) → ∃ b ∈ xs, b < size ∧ ∀ s ∈ xs, s < size → s ≤ b := by
    intro xs
    induction xs with
    | nil => rintro ⟨a, m, _⟩; cases m
    | cons x xs ih =>
      rintro ⟨a, m, ha⟩
      by_cases ex : ∃ a ∈ xs, a < size
      · obtain ⟨b, b1, b2, b3⟩ := ih ex
        by_cases z : x < size ∧ b < x
        · exact ⟨x, List.mem_cons_self .., z.1, fun s hs hl => by
            rcases List.mem_cons.mp hs with rfl | hs
            · exact Nat.le_refl _
            · have := b3 s hs hl; omega⟩
        · exact ⟨b, List.mem_cons_of_mem _ b1, b2, fun s hs hl => by
            rcases List.mem_cons.mp hs with rfl | hs
            · omega
            · exact b3 s hs hl⟩
      · rcases List.mem_cons.mp m with rfl | m
        · exact ⟨a, List.mem_cons_self .., ha, fun s hs hl => by
            rcases List.mem_cons.mp hs with rfl | hs
            · exact Nat.le_refl _
            · exact absurd ⟨s, hs, hl⟩ ex⟩
        · exact absurd ⟨a, m, ha⟩ ex
  exact key k ⟨0, List.mem_of_getElem? o.hd, h⟩
theorem los_none {y : Ly} {b : Bool} (L : LosP y b) (q : ∀ g ∈ y.fs, ∀ l, DueH y.rs (y.ke.getD g []) g l → l ∈ y.ws) : b = false := by
  obtain ⟨cut, ⟨zss, z1, z2, z3, z4, cut0, m0, same⟩, hb⟩ := L
  have full : ∀ h, h < y.rs.length → h ∉ y.fs → cut0.getD h 0 ≥ sz y.rs h := by
    intro h hh nf
    have hz := List.getElem?_eq_getElem (l := zss) (by rw [z1]; exact hh)
    have k := y.d.ok h hh
    have hl := List.mem_of_getLast? k.lst
    exact m0.top h _ hz _ ((z2 h _ hh hz).base _ hl (.inl nf))
  have cl : Closed y.rs cut0 := by
    intro c hc hle
    obtain ⟨g1, g2, g3, g4, g5⟩ := car_ne y.R hc
    exfalso
    by_cases nf : c.2.1.1 ∈ y.fs
    · have hz := List.getElem?_eq_getElem (l := zss) (by rw [z1]; exact g5)
      have L := z2 c.2.1.1 _ g5 hz
      have k := y.d.ok c.2.1.1 g5
      obtain ⟨t, t1, t2, t3⟩ := top_base k (by omega)
      have up : ∀ j, t + j ≤ c.2.1.2 + 1 → t + j ∈ zss[c.2.1.1]'(by rw [z1]; exact g5) := by
        intro j
        induction j with
        | zero => exact fun _ => L.base t t1 (.inr (.inl t2))
        | succ j ih =>
          intro hj
          refine L.step (t + j) (ih (by omega)) (by omega) ?_
          rintro ⟨l, e1, e2⟩
          refine e2 (q _ nf l ⟨t + j, ?_, fun s hs hl => by have := t3 s hs hl; omega, c, hc, rfl, by omega⟩)
          unfold letAt
          rw [e1] <;> rfl
      have tm := m0.top _ _ hz t (L.base t t1 (.inr (.inl t2)))
      have := m0.top _ _ hz (c.2.1.2 + 1) (by
        have := up (c.2.1.2 + 1 - t) (by omega)
        rw [show t + (c.2.1.2 + 1 - t) = c.2.1.2 + 1 by omega] at this
        exact this)
      omega
    · have := full _ g5 nf
      omega
  have e := same cl
  subst e
  cases b with
  | false => rfl
  | true =>
    obtain ⟨h, h1, h2, h3⟩ := hb.mp rfl
    have := full h h1 h2
    omega
/-- just the least -/
theorem fl_uniq {rs : List Row} {k : Ka rs} {ws : List Nat} : ∀ {a b : Option Nat}, FlP k ws a → FlP k ws b → a = b
  | none, none, _, _ => rfl
  | none, some h, x, ⟨h1, ⟨l, d, n⟩, _⟩ => absurd (x h h1 l d) n
  | some h, none, ⟨h1, ⟨l, d, n⟩, _⟩, x => absurd (x h h1 l d) n
  | some g, some h, ⟨g1, ⟨l, d, n⟩, g3⟩, ⟨h1, ⟨l', d', n'⟩, h3⟩ => by
    rcases Nat.lt_trichotomy g h with z | z | z
    · exact absurd (h3 g z l d) n
    · rw [z]
    · exact absurd (g3 h z l' d') n'
theorem due_all {rs : List Row} {k : Ka rs} {ws : List Nat} {a : Option Nat} (f : FlP k ws a) : a = none ↔ ∀ l, Due k l → l ∈ ws := by
  cases a with
  | none => exact ⟨fun _ l ⟨h, h1, h2⟩ => f h h1 l h2, fun _ => rfl⟩
  | some h =>
    obtain ⟨h1, ⟨l, d, n⟩, _⟩ := f
    exact ⟨fun e => (by cases e), fun q => absurd (q l ⟨h, h1, d⟩) n⟩
/-- two strictly rising lists with the same members -/
theorem inc_uniq : ∀ {as bs : List Nat}, as.Pairwise (· < ·) → bs.Pairwise (· < ·) → (∀ x, x ∈ as ↔ x ∈ bs) → as = bs
  | [], [], _, _, _ => rfl
  | [], b :: bs, _, _, h => absurd ((h b).mpr (List.mem_cons_self ..)) (by simp)
  | a :: as, [], _, _, h => absurd ((h a).mp (List.mem_cons_self ..)) (by simp)
  | a :: as, b :: bs, p, q, h => by
    have pa : ∀ x ∈ as, a < x := fun x m => List.rel_of_pairwise_cons p m
    have qb : ∀ x ∈ bs, b < x := fun x m => List.rel_of_pairwise_cons q m
    have e : a = b := by
      rcases List.mem_cons.mp ((h a).mp (List.mem_cons_self ..)) with z | z
      · exact z
      · rcases List.mem_cons.mp ((h b).mpr (List.mem_cons_self ..)) with y | y
        · exact y.symm
        · have := qb _ z
          have := pa _ y
          omega
    subst e
    rw [inc_uniq p.of_cons q.of_cons fun x => ?_]
    constructor
    · intro m
      rcases List.mem_cons.mp ((h x).mp (List.mem_cons_of_mem _ m)) with z | z
      · have := pa _ m
        omega
      · exact z
    · intro m
      rcases List.mem_cons.mp ((h x).mpr (List.mem_cons_of_mem _ m)) with z | z
      · have := qb _ m
        omega
      · exact z
theorem due_uniq {rs : List Row} {k k' : Ka rs} (e : k.ke = k'.ke) {as bs : List Nat} (a : DueA k as) (b : DueA k' bs) : as = bs := inc_uniq a.inc b.inc fun x => by
  rw [a.mem, b.mem]
  unfold Due
  rw [e]
/-- more kept, fewer due -/
theorem due_more {rs : List Row} {k k' : Ka rs} (h : ∀ g, g < rs.length → ∀ s ∈ k.ke.getD g [], s ∈ k'.ke.getD g []) {l : Nat} : Due k' l → Due k l
  | ⟨g, g1, p, p1, p2, p3⟩ => ⟨g, g1, p, p1, fun s hs hl => p2 s (h g g1 s hs) hl, p3⟩
end K89
set_option Elab.async false
set_option linter.all false
set_option maxRecDepth 100000
set_option maxHeartbeats 4000000
/-! K89Q: repr; a def that is entered while no repr runs; calls by names alone; the law's end. -/
namespace K89
open PySem PySem.Spec PyProof.Rows L2

/-! ### repr -/
theorem lists_of {h : Heap} : ∀ (d : PyData) {v : Value} {as : List Addr}, Reads h v d as → d.hasDict = false → ∀ b ∈ as, ∃ o, h.get? b = some o ∧ o.cls = .type "list"
  | .none, _, _, r, _, b, m => by cases r; cases m
  | .bool _, _, _, r, _, b, m => by cases r; cases m
  | .int _, _, _, r, _, b, m => by cases r; cases m
  | .str _, _, _, r, _, b, m => by cases r; cases m
  | .list ds, _, _, r, q, b, m => by
    cases r with
    | list h1 h2 h3 h4 =>
      rcases List.mem_cons.mp m with e | m
      · subst e
        exact ⟨_, h1, h2⟩
      · exact go ds h4 (by simpa only [PyData.hasDict] using q) b m
  | .tuple ds, _, _, r, q, b, m => by
    cases r with
    | tuple h1 h2 h3 h4 => exact go ds h4 (by simpa only [PyData.hasDict] using q) b m
  | .dict _, _, _, _, q, _, _ => by simp only [PyData.hasDict] at q; cases q
where go : ∀ (ds : List PyData) {vs : List Value} {as : List Addr}, ReadsAll h vs ds as → PyData.hasDictAll ds = false → ∀ b ∈ as, ∃ o, h.get? b = some o ∧ o.cls = .type "list"
  | [], _, _, r, _, b, m => by cases r; cases m
  | d :: ds, _, _, r, q, b, m => by
    cases r with
    | cons r1 r2 =>
      simp only [PyData.hasDictAll, Bool.or_eq_false_iff] at q
      rcases List.mem_append.mp m with m | m
      · exact lists_of d r1 q.1 b m
      · exact go ds r2 q.2 b m
theorem kv_vals {P : Program} {w : World} : ∀ {kvs : List (Key × V)} {ws : List (Key × Value)} {es : List DictEntry}, KV kvs ws → Pairs (mixKind P w) es ws → Vals (kvs.map fun e => kV e.1) (es.map (·.key)) ∧ Vals (kvs.map (·.2)) (es.map (·.val))
  | [], _, _, h, k => by
    cases h
    cases k
    exact ⟨.nil, .nil⟩
  | (kk, v) :: kvs, _, _, h, k => by
    cases h with
    | cons h1 h2 =>
      cases k with
      | cons k1 k2 k3 =>
        obtain ⟨i1, i2⟩ := kv_vals h2 k3
        refine ⟨.cons ?_ i1, .cons (by have z := h1.2; rw [← k2] at z; exact z) i2⟩
        rw [← h1.1] at k1
        rcases keyIs_shape k1 with ⟨i, t, e1, e2⟩ | ⟨x, t, e1, e2⟩
        · have e1' : kk = Sum.inl i := e1
          subst e1'
          exact ⟨t, e2⟩
        · have e1' : kk = Sum.inr x := e1
          subst e1'
          exact ⟨t, e2⟩
/-- data of one look: plain, or a frozen dict of plain ones -/
inductive DpF (K : PySem.W.Frag) (H : Hp) : V → PyData → Prop
  | plain {v : V} {d : PyData} : Dp K H v d → d.hasDict = false → DpF K H v d
  | dict {a : Addr} {o : Obj} {kvs : List (Key × V)} {kds : List (PyData × PyData)} : H a = some (.frz o (.dK kvs)) → DpAll K H (kvs.map fun e => kV e.1) (kds.map (·.1)) → DpAll K H (kvs.map (·.2)) (kds.map (·.2)) →
      PyData.hasDictAll (kds.map (·.1)) = false → PyData.hasDictAll (kds.map (·.2)) = false → DpF K H (.ref a) (.dict kds)
def rRepr (K : PySem.W.Frag) : List V → Hp → VK → Prop := fun vs H Q => ∃ (a : Addr) (d : PyData), vs = [V.ref a] ∧ DpF K H (.ref a) d ∧ d.showable = true ∧ d.shown.length ≤ sizeLine ∧ d.depth ≤ 64 ∧ Q (.str d.shown) H
theorem cr_repr {X : Cx} (HG : X.A.guards = some []) (hu : X.A.units + 100 < cLine) (SM : ∃ o : Obj, X.K.lookup sysModules = some o ∧ o.cls = .type "dict") : CallR X (.builtin "repr") (rRepr X.K) := by
  intro pins s σ H vs us Q I r h
  obtain ⟨a, d, rfl, hd, hs, hz, hdp, q⟩ := h
  rw [Vals.ref1 r]
  obtain ⟨om, k1, k2⟩ := SM
  have k3 := I.kIn _ _ k1
  have k4 : H sysModules = none := (I.bs _ _ (I.mod.kin _ _ k1)).2
  have nl : ∀ {b : Addr}, (∃ o, s.heap.get? b = some o ∧ o.cls = .type "list") → b ≠ sysModules := fun {b} ⟨o, e1, e2⟩ e => by
    rw [e, k3] at e1
    cases e1
    rw [k2] at e2
    revert e2
    decide
  have fin : ∀ as, Reads s.heap (.ref a) d as → (d.hasDict = true → sysModules ∉ as) → wpAny (model X.prog X.w) X.A (call (.builtin "repr") [.ref a]) (EP X pins σ Q) X.xe s := fun as rd hsm =>
    repr_of_reads' rd hs hsm HG (by omega) (fun _ _ e => e) (fun h' u tk hk => ⟨.str d.shown, H, I.kept hk, ⟨_, rfl⟩, q⟩) hz
  cases hd with
  | plain hp nd =>
    obtain ⟨as, rd⟩ := Dp.reads I d _ _ hp rfl
    exact fin as rd (PyData.noDict_hsm nd)
  | @dict _ o kvs kds ha hk hv nk nv =>
    obtain ⟨_, hz2, hs0, ws, kv, hdo⟩ := I.hok a _ ha
    obtain ⟨o', es, ep, h1, h2, h3, _, h4, _⟩ := hdo
    obtain ⟨v1, v2⟩ := kv_vals kv h4
    obtain ⟨as, r1⟩ := Dp.readsAll I _ _ _ hk v1
    obtain ⟨bs, r2⟩ := Dp.readsAll I _ _ _ hv v2
    refine fin _ (Reads.dict h1 h2.1 h3 r1 r2) fun _ m => ?_
    rcases List.mem_append.mp m with m | m
    · rcases List.mem_cons.mp m with e | m
      · rw [← e] at hs0
        exact absurd hs0 (by decide)
      · exact nl (lists_of.go _ r1 nk _ m) rfl
    · exact nl (lists_of.go _ r2 nv _ m) rfl
/-- plain and small -/
structure Small (w e : Nat) (d : PyData) : Prop where
  sh : d.showable = true
  sz : d.leavesShort 13 = true
  wt : d.weight ≤ w
  dp : d.depth ≤ e
  nd : d.hasDict = false
structure SmallL (w e : Nat) (ds : List PyData) : Prop where
  sh : PyData.showableAll ds = true
  sz : PyData.leavesShortAll 13 ds = true
  wt : PyData.weightAll ds ≤ (w + 1) * ds.length
  dp : PyData.depthAll ds ≤ e
  nd : PyData.hasDictAll ds = false
theorem small_all {w e : Nat} : ∀ {ds : List PyData}, (∀ d ∈ ds, Small w e d) → SmallL w e ds
  | [], _ => ⟨by simp [PyData.showableAll], by simp [PyData.leavesShortAll], by simp [PyData.weightAll], by simp [PyData.depthAll], by simp [PyData.hasDictAll]⟩
  | d :: ds, h => by
    have a := h d (List.mem_cons_self ..)
    have b := small_all fun x hx => h x (List.mem_cons_of_mem _ hx)
    have e1 : (w + 1) * (d :: ds).length = (w + 1) * ds.length + (w + 1) := by rw [List.length_cons, Nat.mul_succ]
    refine ⟨?_, ?_, ?_, ?_, ?_⟩
    · simp only [PyData.showableAll, a.sh, b.sh, Bool.and_self]
    · simp only [PyData.leavesShortAll, a.sz, b.sz, Bool.and_self]
    · simp only [PyData.weightAll]
      have := a.wt
      have := b.wt
      omega
    · simp only [PyData.depthAll]
      have := a.dp
      have := b.dp
      omega
    · simp only [PyData.hasDictAll, a.nd, b.nd, Bool.or_self]
theorem small_list {w e n : Nat} {ds : List PyData} (h : ∀ d ∈ ds, Small w e d) (hn : ds.length ≤ n) : Small ((w + 1) * n) (e + 1) (.list ds) := by
  have a := small_all h
  have : (w + 1) * ds.length ≤ (w + 1) * n := Nat.mul_le_mul_left _ hn
  refine ⟨by simp only [PyData.showable, a.sh], by simp only [PyData.leavesShort, a.sz], ?_, ?_, by simp only [PyData.hasDict, a.nd]⟩
  · simp only [PyData.weight]
    have := a.wt
    omega
  · simp only [PyData.depth]
    have := a.dp
    omega
theorem small_int {n : Nat} (h : n < 1024) : Small 10 0 (.int (n : Int)) := by
  have e : ((n : Int)).natAbs = n := Int.natAbs_natCast n
  have l1 : n.log2 < 10 := by
    by_cases z : n = 0
    · subst z
      decide
    · exact (Nat.log2_lt z).mpr h
  refine ⟨?_, ?_, ?_, ?_, ?_⟩
  · simp only [PyData.showable, e]
    exact decide_eq_true (by omega)
  · simp only [PyData.leavesShort]
    exact decide_eq_true (PyData.shown_int_le (by rw [e]; omega))
  · simp only [PyData.weight, e]
    split <;> omega
  · simp only [PyData.depth]
    omega
  · simp only [PyData.hasDict]
theorem small_bool {b : Bool} : Small 10 0 (.bool b) := ⟨by simp only [PyData.showable], by simp only [PyData.leavesShort], by simp [PyData.weight], by simp [PyData.depth], by simp only [PyData.hasDict]⟩
theorem small_none : Small 10 0 .none := ⟨by simp only [PyData.showable], by simp only [PyData.leavesShort], by simp [PyData.weight], by simp [PyData.depth], by simp only [PyData.hasDict]⟩
theorem Small.fits {w e : Nat} {d : PyData} (s : Small w e d) (h : w ≤ 1048576) : d.shown.length ≤ sizeLine := PyData.shown_fits (B := 13) (by decide) (by decide) s.sz (Nat.le_trans s.wt (by simpa using h))
section
variable {F B : Hp} {Γ : Gam} {M : List Mut1} {ta tb tc te : TE} {tas : TA} {t : Ty} {ts us : List Ty} {K : PySem.W.Frag} {p : Addr} {m : MTy} {nx bk ct : L2.St → Hp → Prop} {rt : VK}
/-- what a typed value reads as -/
def Rd (K : PySem.W.Frag) (t : Ty) (d : PyData) : Prop := ∀ v H G, Er G H → t.at_ v G → Dp K H v d
theorem rd_n {n : Nat} : Rd K (tn n) (.int (n : Int)) := fun v H G _ a => by
  have a' : v = .int (n : Int) := a
  subst a'
  exact .int _
theorem rd_b {b : Bool} : Rd K (tB b) (.bool b) := fun v H G _ a => by
  have a' : v = .bl b := a
  subst a'
  exact .bl _
theorem rd_N : Rd K tN .none := fun v H G _ a => by
  have a' : v = .non := a
  subst a'
  exact .non
theorem rd_all {α : Type} {f : α → Ty} {g : α → PyData} (h : ∀ x, Rd K (f x) (g x)) {H G : Hp} (e : Er G H) : ∀ {xs : List α} {vs : List V}, At (xs.map f) vs G → DpAll K H vs (xs.map g)
  | [], [], _ => .nil
  | x :: xs, v :: vs, a => .cons (h x v H G e a.1) (rd_all h e a.2)
  | [], _ :: _, a => a.elim
  | _ :: _, [], a => a.elim
theorem rd_L {α : Type} {f : α → Ty} {g : α → PyData} (h : ∀ x, Rd K (f x) (g x)) {xs : List α} : Rd K (tL (xs.map f)) (.list (xs.map g)) := fun v H G e a => by
  obtain ⟨b, vs, rfl, eb, av⟩ := a
  exact .lst (SqL.of (e b _ eb)) (rd_all h e av)
theorem e_repr {d : PyData} {w k : Nat} (h : K89.E te Γ M (tL ts)) (r : Rd K (tL ts) d) (s : Small w k d) (hw : w ≤ 1048576) (hk : k ≤ 64) : K89.E (tCB (rRepr K) (tCons te tNil)) Γ M (tS d.shown) := fun F B σ H G s1 g Q q => h F B σ H G s1 g _ fun v H1 G1 s2 e1 a => by
  have dp := r v H1 G1 s2.er a
  obtain ⟨b, vs, rfl, _⟩ := a
  exact ⟨b, d, rfl, .plain dp s.nd, s.sh, s.fits hw, Nat.le_trans s.dp hk, q _ H1 G1 s2 e1 rfl⟩
/-- of a list that may change yet -/
theorem e_reprM {d : PyData} {w k j : Nat} (hj : M[j]? = some (p, mL ts)) (h : K89.E te Γ M (tR p)) (r : Rd K (tL ts) d) (s : Small w k d) (hw : w ≤ 1048576) (hk : k ≤ 64) : K89.E (tCB (rRepr K) (tCons te tNil)) Γ M (tS d.shown) := fun F B σ H G s1 g Q q => h F B σ H G s1 g _ fun v H1 G1 s2 e1 a => by
  have a' : v = .ref p := a
  subst a'
  obtain ⟨_, h2, o, h3, vs, rfl, av⟩ := s2.mm p _ (List.mem_of_getElem? hj)
  have e2 : Er (upd G1 p (.lst vs)) H1 := s2.er.left h3
  have dp := r (.ref p) H1 (upd G1 p (.lst vs)) e2 ⟨p, vs, rfl, upd_same, av.mono (Er.grow h2)⟩
  exact ⟨p, d, rfl, .plain dp s.nd, s.sh, s.fits hw, Nat.le_trans s.dp hk, q _ H1 G1 s2 e1 rfl⟩
end
end K89
set_option Elab.async false
set_option linter.all false
set_option maxRecDepth 100000
set_option maxHeartbeats 4000000
/-! K89Q2: a def that is entered while no repr runs; calls by names alone; the law's end. -/
namespace K89
open PySem PySem.Spec PyProof.Rows L2

/-- as a def's contract, for entries behind which no repr stands -/
structure FnG (P : Program) (w : World) (K : PySem.W.Frag) (mg : Str → Option Value) (bs : Heap) (k : Nat) (f : Addr) (fd : FuncData) (ps : List Str) (sp : Sp) : Prop where
  ln : ∀ vs H Q E, sp vs H Q E → vs.length = ps.length
  go : ∀ (A : Around) (out : List Env) (s : Shared) (H : Hp) (ar : Args) (us : List Value) (vs : List V) (Q : VK) (E : XK), A.guards = some [] → Room k A → Env0 P w K mg bs A out s H → BindsTo s fd ar (ps.zip us) → Vals vs us → sp vs H Q E →
    codeAny (model P w) A (.call (.ref f) ar) (CR CX0 out P w H s Q E) s
section
variable {P : Program} {w : World} {K : PySem.W.Frag} {mg : Str → Option Value} {bs : Heap} {x qual : Str} {pr : Arguments} {bd : List Stmt} {sc : Scope} {dl : List V} {kl : List (Str × V)} {f : Addr} {fd : FuncData} {k : Nat} {N ps : List Str} {sp : Sp}
theorem fng_of (Fd : FunD K x qual pr bd sc dl kl f fd) (S : FnScope N ps sc) (ln : ∀ vs H Q E, sp vs H Q E → vs.length = ps.length)
    (hb : ∀ (c : Value) (A : Around) (out : List Env) (s : Shared) (H : Hp) (vs : List V) (Q : VK) (E : XK), (A.deeper (envOfC qual sc s.heap.objs.size f c)).guards = some [] → Room k (A.deeper (envOfC qual sc s.heap.objs.size f c)) → sp vs H Q E →
      ∃ t, PSs (cxOf CX0 P w K mg bs N qual sc f c A out s H E) bd t ∧ t { nx := fun _ H' => Q .non H', rt := Q } (L2.start N vs) H) : FnG P w K mg bs (k + 1) f fd ps sp := by
  obtain ⟨oc, od, dV, kV, doc, pm, an, c, ct, osl, rfl, lk, hcd, _, _⟩ := Fd.ex
  refine ⟨ln, fun A out s H ar us vs Q E hg hr e0 hbd rv hs => ?_⟩
  have hl := ln _ _ _ _ hs
  have KX : K.In s.heap := e0.mod.kin.keeps fun b o z => (e0.bs b o z).1
  have lim : s.heap.NoLimit := e0.mod.nolimit.keeps fun b o z => (e0.bs b o z).1
  refine codeAny_call_function hr.depth (KX _ _ lk) rfl S.co S.gen rfl (PySem.W.codeRec_of KX hcd) (hbd _ _ _ _ ?_)
  refine wpAny_newFunctionEnv_cells S.kind (fun ⟨n, v⟩ hy => ?_) fun env he s1 inc => ?_
  · rcases S.par n (List.of_mem_zip hy).1 with q | q
    · exact .inl q
    · exact .inr ⟨q, PySem.W.cellsFrom_some _ _ _ (.inl q)⟩
  subst he
  refine ⟨lim.keeps inc.toInCall.keep, codeAny_func ?_⟩
  obtain ⟨t, ht, hq⟩ := hb c A out s H vs Q E hg (hr.deeper _) hs
  have I : Inv (cxOf CX0 P w K mg bs N qual sc f c A out s H E) [] (L2.start N vs) H s1 := inv_start S hr.hd e0 hl rv inc
  refine wpAny_mono (ht.run [] s1 (L2.start N vs) H _ I hq) (fun fl s' z => ?_) fun e s' z => z
  have fin : ∀ {σ' : L2.St} {H' : Hp} {v : V} {u : Value}, Inv (cxOf CX0 P w K mg bs N qual sc f c A out s H E) [] σ' H' s' → RelV v u → Q v H' → CE out P w H s Q u s' := fun {σ' H' v u} J r q => ⟨v, H', J.os, J.bare, J.base, J.hok, r, q⟩
  cases fl with
  | ret u =>
    obtain ⟨v, σ', H', J, r, q⟩ := z
    exact fin J r q
  | next =>
    obtain ⟨σ', H', J, q⟩ := z
    exact fin (v := V.non) (u := Value.none) J rfl q
  | brk =>
    obtain ⟨_, _, _, q⟩ := z
    exact q.elim
  | cont =>
    obtain ⟨_, _, _, q⟩ := z
    exact q.elim
end
/-- a def with such a contract -/
structure CalQ (P : Program) (w : World) (K : PySem.W.Frag) (mg : Str → Option Value) (x : Str) (k : Nat) (ps : List Str) (sp : Sp) : Prop where
  ex : ∃ (f : Addr) (fd : FuncData), mg x = some (.ref f) ∧ PySem.W.keepIn K (.ref f) = true ∧ (Binds K fd ps [] ∧ ∀ (s : Shared) (us : List Value), us.length = ps.length → BindsTo s fd ⟨us, []⟩ (ps.zip us)) ∧ ∀ bs : Heap, FnG P w K mg bs k f fd ps sp
section
variable {X : Cx} {k : Nat} {ps : List Str} {sp : Sp} {x : Str} {p pos : Pos} {e : Expr} {es : List Expr} {t : TA}
theorem pe_fQ (c : CalQ X.prog X.w X.K X.mg x k ps sp) (HG : X.A.guards = some []) (hr : Room k X.A) (hg : Gl X x) (ha : PA X (e :: es) t) (hdb : (x == ("__debug__" : Str)) = false := by decide)
    (he : starEach (e :: es) X.env = (false, eval e X.env) :: starEach es X.env := by rfl) (hpl : (backTo pos (starEach es X.env)).any (·.1) = false := by rfl) : PE X (.Call (.Name x p) (e :: es) [] pos) (tCall sp [] E0 t) := by
  obtain ⟨f, fd, h1, h2, ⟨h3, _⟩, h4⟩ := c.ex
  refine ⟨fun pins s σ H Q I hq => wpAny_Call_Name_kw (ld_glob I hg h1 ?_ hdb)⟩
  refine PySem.W.callWith_K (h₀ := X.base) I.ok.mod.kin h2 (thn (ha.run pos pins s σ H _ I hq) fun us s1 ⟨vs, H1, I1, r, q⟩ => ⟨I1.kIn, ?_⟩) he hpl
  have q : sp (vs ++ []) H1 Q E0 := q
  rw [List.append_nil] at q
  have hl : us.length = ps.length := by rw [← r.length]; exact (h4 X.base).ln _ _ _ _ q
  have hb := h3 s1 us I1.kIn (by rw [List.append_nil]; exact hl)
  rw [List.append_nil] at hb
  refine wpAny_call (codeAny_mono ((h4 X.base).go X.A X.stack s1 H1 ⟨us, []⟩ us vs Q E0 HG hr I1.env0 hb r q) fun z s' hz => ?_)
  cases z with
  | error e => exact False.elim hz
  | ok fl =>
    cases fl with
    | ret u => exact I1.after hz
    | next => exact hz.elim
    | brk => exact hz.elim
    | cont => exact hz.elim
end
section
variable {P : Program} {w : World} {K : PySem.W.Frag} {mg : Str → Option Value}
theorem CalQ.mk' {α : Type} {as : α → List Ty} {r : α → Ty} {x : Str} {N ps : List Str} {k n : Nat} (T : En K mg) (i j : Nat) {d : He.DefD} (hd : fn[i]? = some d) (hg : fa[j]? = some (.glo x)) (h1 : d.at_ = (x, none)) (h2 : d.dfl = []) (h3 : d.kwd = []) (S : FnScope N ps d.scope)
    (hN : N.length = ps.length + n) (hl : ∀ y, (as y).length = ps.length)
    (hb : ∀ (kV doc pm : Value) (an : Option Addr) (cdv ct : Value) (us : List Value), us.length = ps.length → bindArgs (PySem.W.fnOf d.name d.qual d.params d.body d.scope .none kV doc pm an cdv ct) ⟨us, []⟩ = pure (ps.zip us))
    (hbody : ∀ (base : Heap) (cdv : Value) (A : Around) (outer : List Env) (s : Shared) (H : Hp) (E : XK), (A.deeper (envOfC d.qual d.scope s.heap.objs.size (He.ga K x) cdv)).guards = some [] → Room k (A.deeper (envOfC d.qual d.scope s.heap.objs.size (He.ga K x) cdv)) →
      ∃ t, PSs (cxOf CX0 P w K mg base N d.qual d.scope (He.ga K x) cdv A outer s H E).nox d.body t ∧ Body t n as r) : CalQ P w K mg x (k + 1) ps (spT as r) := by
  obtain ⟨fd, Fd⟩ := T.defD i hd
  have e1 : d.dvs K = [] := by unfold He.DefD.dvs; rw [h2]; rfl
  have e2 : d.kws K = [] := by unfold He.DefD.kws; rw [h3]; rfl
  have e3 : He.fAd K d.at_ = He.ga K x := by rw [h1]; rfl
  rw [e1, e2, e3] at Fd
  refine ⟨_, fd, T.glo j hg, Fd.kp, ⟨Fd.bindsN hb, Fd.bindsA hb⟩, fun base => fng_of Fd S (fun vs H Q E h => ?_) fun cdv A outer s H vs Q E hgd hr h => ?_⟩
  · obtain ⟨y, G, _, a, _⟩ := h
    rw [a.length, hl]
  · obtain ⟨t, h4, h5⟩ := hbody base cdv A outer s H E hgd hr
    exact ⟨t, h4.nox, body_run h5 hN hl h⟩
theorem CalQ.mkM' {α : Type} {as : α → Addr → List Ty} {m0 m1 : α → MTy} {r : α → Ty} {x : Str} {N ps : List Str} {k n : Nat} (T : En K mg) (i j : Nat) {d : He.DefD} (hd : fn[i]? = some d) (hg : fa[j]? = some (.glo x)) (h1 : d.at_ = (x, none)) (h2 : d.dfl = []) (h3 : d.kwd = []) (S : FnScope N ps d.scope)
    (hN : N.length = ps.length + n) (hl : ∀ y p, (as y p).length = ps.length)
    (hb : ∀ (kV doc pm : Value) (an : Option Addr) (cdv ct : Value) (us : List Value), us.length = ps.length → bindArgs (PySem.W.fnOf d.name d.qual d.params d.body d.scope .none kV doc pm an cdv ct) ⟨us, []⟩ = pure (ps.zip us))
    (hbody : ∀ (base : Heap) (cdv : Value) (A : Around) (outer : List Env) (s : Shared) (H : Hp) (E : XK), (A.deeper (envOfC d.qual d.scope s.heap.objs.size (He.ga K x) cdv)).guards = some [] → Room k (A.deeper (envOfC d.qual d.scope s.heap.objs.size (He.ga K x) cdv)) →
      ∃ t, PSs (cxOf CX0 P w K mg base N d.qual d.scope (He.ga K x) cdv A outer s H E).nox d.body t ∧ BodyM t n as m0 m1 r) : CalQ P w K mg x (k + 1) ps (spM as m0 m1 r) := by
  obtain ⟨fd, Fd⟩ := T.defD i hd
  have e1 : d.dvs K = [] := by unfold He.DefD.dvs; rw [h2]; rfl
  have e2 : d.kws K = [] := by unfold He.DefD.kws; rw [h3]; rfl
  have e3 : He.fAd K d.at_ = He.ga K x := by rw [h1]; rfl
  rw [e1, e2, e3] at Fd
  refine ⟨_, fd, T.glo j hg, Fd.kp, ⟨Fd.bindsN hb, Fd.bindsA hb⟩, fun base => fng_of Fd S (fun vs H Q E h => ?_) fun cdv A outer s H vs Q E hgd hr h => ?_⟩
  · obtain ⟨y, p, G, o, _, a, _⟩ := h
    rw [a.length, hl]
  · obtain ⟨t, h4, h5⟩ := hbody base cdv A outer s H E hgd hr
    exact ⟨t, h4.nox, body_runM h5 hN hl h⟩
end

/-! ### f(k = v, ..) -/
theorem kb_of {K : PySem.W.Frag} {x qual : Str} {pr : Arguments} {bd : List Stmt} {sc : Scope} {f : Addr} {fd : FuncData} {ps ks : List Str} {g : List Value → List Value → List Value} {gV : List V → List V → List V} (Fd : FunD K x qual pr bd sc [] [] f fd)
    (h : ∀ (kV doc pm : Value) (an : Option Addr) (c ct : Value) (us ws : List Value), (g us ws).length = ps.length → bindArgs (PySem.W.fnOf x qual pr bd sc .none kV doc pm an c ct) ⟨us, ks.zip ws⟩ = pure (ps.zip (g us ws)))
    (rel : ∀ {vs : List V} {us : List Value} {zs : List V} {ws : List Value}, Vals vs us → Vals zs ws → Vals (gV vs zs) (g us ws)) : KBinds K fd ps ks g gV := by
  obtain ⟨oc, od, dV, kV, doc, pm, an, c, ct, osl, rfl, lk, hcd, hD, hK⟩ := Fd.ex
  rcases hD with ⟨_, rfl⟩ | ⟨e, _⟩
  · exact ⟨fun s us ws _ hl => .of_eq (h kV doc pm an c ct us ws hl), rel⟩
  · exact absurd rfl e
/-- three values by names, in the order of the names from the last to the first -/
def rv3 {α : Type} : List α → List α → List α
  | [], [a, b, c] => [c, b, a]
  | _, _ => []
def rv2 {α : Type} : List α → List α → List α
  | [], [a, b] => [b, a]
  | _, _ => []
theorem rv3_rel {vs : List V} {us : List Value} {zs : List V} {ws : List Value} (h : Vals vs us) (k : Vals zs ws) : Vals (rv3 vs zs) (rv3 us ws) := by
  cases h with
  | cons _ _ => exact .nil
  | nil =>
    cases k with
    | nil => exact .nil
    | cons r1 k =>
      cases k with
      | nil => exact .nil
      | cons r2 k =>
        cases k with
        | nil => exact .nil
        | cons r3 k =>
          cases k with
          | nil => exact .cons r3 (.cons r2 (.cons r1 .nil))
          | cons _ _ => exact .nil
theorem rv2_rel {vs : List V} {us : List Value} {zs : List V} {ws : List Value} (h : Vals vs us) (k : Vals zs ws) : Vals (rv2 vs zs) (rv2 us ws) := by
  cases h with
  | cons _ _ => exact .nil
  | nil =>
    cases k with
    | nil => exact .nil
    | cons r1 k =>
      cases k with
      | nil => exact .nil
      | cons r2 k =>
        cases k with
        | nil => exact .cons r2 (.cons r1 .nil)
        | cons _ _ => exact .nil
theorem rv3_len {us ws : List Value} (h : (rv3 us ws).length = 3) : us = [] ∧ ∃ a b c, ws = [a, b, c] := by
  match us, ws, h with
  | [], [a, b, c], _ => exact ⟨rfl, a, b, c, rfl⟩
  | [], [], h => cases h
  | [], [_], h => cases h
  | [], [_, _], h => cases h
  | [], _ :: _ :: _ :: _ :: _, h => cases h
  | _ :: _, _, h => cases h
theorem rv2_len {us ws : List Value} (h : (rv2 us ws).length = 2) : us = [] ∧ ∃ a b, ws = [a, b] := by
  match us, ws, h with
  | [], [a, b], _ => exact ⟨rfl, a, b, rfl⟩
  | [], [], h => cases h
  | [], [_], h => cases h
  | [], _ :: _ :: _ :: _, h => cases h
  | _ :: _, _, h => cases h
theorem rm100 {A : Around} {k : Nat} (hr : Room k A) : A.units + 100 < cLine := by have := hr.un; omega
/-- the function that the name has is the def of the list -/
theorem fun_is {K : PySem.W.Frag} {mg : Str → Option Value} (T : En K mg) {x : Str} {f : Addr} {fd : FuncData} (i j : Nat) {d : He.DefD} (hd : fn[i]? = some d) (hg : fa[j]? = some (.glo x)) (h1 : d.at_ = (x, none)) (h2 : d.dfl = []) (h3 : d.kwd = []) (hm : mg x = some (.ref f)) (hk : InK K f fd) :
    FunD K d.name d.qual d.params d.body d.scope [] [] f fd := by
  obtain ⟨fd', Fd⟩ := T.defD i hd
  have e1 : d.dvs K = [] := by unfold He.DefD.dvs; rw [h2]; rfl
  have e2 : d.kws K = [] := by unfold He.DefD.kws; rw [h3]; rfl
  have e3 : He.fAd K d.at_ = He.ga K x := by rw [h1]; rfl
  rw [e1, e2, e3] at Fd
  have e4 : He.ga K x = f := by
    have z := T.glo j hg
    rw [hm] at z
    cases z
    rfl
  rw [e4] at Fd
  obtain ⟨oc, od, osl, l1⟩ := hk
  obtain ⟨oc', od', osl', l2⟩ := inK_of Fd
  rw [l1] at l2
  cases l2
  exact Fd
section
variable {X : Cx} {k : Nat} {ps ks : List Str} {sp : Sp} {x : Str} {p pos : Pos} {kws : List Keyword} {tk : TA} {g : List Value → List Value → List Value} {gV : List V → List V → List V}
theorem pe_fK (T : En X.K X.mg) (c : Cal X.prog X.w X.K X.mg x k ps sp) (i j : Nat) {d : He.DefD} (hd : fn[i]? = some d) (hgl : fa[j]? = some (.glo x)) (h1 : d.at_ = (x, none)) (h2 : d.dfl = []) (h3 : d.kwd = [])
    (h : ∀ (kV doc pm : Value) (an : Option Addr) (c ct : Value) (us ws : List Value), (g us ws).length = ps.length → bindArgs (PySem.W.fnOf d.name d.qual d.params d.body d.scope .none kV doc pm an c ct) ⟨us, ks.zip ws⟩ = pure (ps.zip (g us ws)))
    (rel : ∀ {vs : List V} {us : List Value} {zs : List V} {ws : List Value}, Vals vs us → Vals zs ws → Vals (gV vs zs) (g us ws))
    (hr : Room k X.A) (hg : Gl X x) (hkw : PK X kws tk)
    (hall : (backToKw pos (keywordEach kws X.env)).all (·.1.isSome) = true := by rfl) (hks : (backToKw pos (keywordEach kws X.env)).filterMap (·.1) = ks := by rfl) (hdb : (x == ("__debug__" : Str)) = false := by decide)
    (hpl : ((backTo pos (starEach [] X.env)).any (·.1) || (backToKw pos (keywordEach kws X.env)).any (·.1.isNone)) = false := by rfl) : PE X (.Call (.Name x p) [] kws pos) (tCallK sp gV E0 tNil tk) := by
  obtain ⟨f, fd, m1, m2, ⟨_, m3⟩, m4⟩ := c.ex
  exact pe_callK0 (m4 X.base) hr hg m1 m2 (kb_of (fun_is T i j hd hgl h1 h2 h3 m1 m3) h rel) pass0 hkw hall hks hdb hpl
end
section
variable {F B : Hp} {Γ : Gam} {M : List Mut1} {tas : TA} {t : Ty} {ts us : List Ty} {m : MTy}
theorem at_rv3 {a b c : Ty} {vs : List V} {G : Hp} (h : At [a, b, c] vs G) : At [c, b, a] (rv3 [] vs) G := by
  match vs, h with
  | [x, y, z], h => exact ⟨h.2.2.1, h.2.1, h.1, trivial⟩
theorem at_rv2 {a b : Ty} {vs : List V} {G : Hp} (h : At [a, b] vs G) : At [b, a] (rv2 [] vs) G := by
  match vs, h with
  | [x, y], h => exact ⟨h.2.1, h.1, trivial⟩
theorem e_fK3 {α : Type} {as : α → List Ty} {r : α → Ty} {E0 : XK} {a b c : Ty} (x : α) (h : EA tas Γ M [a, b, c]) (hx : as x = [c, b, a] := by rfl) (e : r x = t := by rfl) : K89.E (tCallK (spT as r) rv3 E0 tNil tas) Γ M t := fun F B σ H G s g Q q =>
  h F B σ H G s g _ fun vs H1 G1 s1 e1 a1 => e_sp x s1 (by rw [hx]; exact at_rv3 a1) fun v H' G' s' e' a' => q v H' G' s' (e1.trans e') (e ▸ a')
theorem en_fK2 {α : Type} {as : α → List Ty} {m1 : α → MTy} {E0 : XK} {a b : Ty} (x : α) (h : EA tas Γ M [a, b]) (hx : as x = [b, a] := by rfl) (e : m1 x = m := by rfl) : EN (tCallK (spN as m1) rv2 E0 tNil tas) Γ M m := by
  have h2 : EA (fun σ H Q => tas σ H fun vs H1 => Q (rv2 [] vs) H1) Γ M (as x) := fun F B σ H G s g Q q => h F B σ H G s g _ fun vs H1 G1 s1 e1 a1 => q _ H1 G1 s1 e1 (by rw [hx]; exact at_rv2 a1)
  have k := en_f (E0 := E0) x h2 e
  intro F B σ H G s g Q q
  have z := k F B σ H G s g Q q
  have e2 : tCall (spN as m1) [] E0 (fun σ H Q => tas σ H fun vs H1 => Q (rv2 [] vs) H1) σ H Q = tCallK (spN as m1) rv2 E0 tNil tas σ H Q := by
    unfold tCall tCallK tNil
    simp only [List.append_nil]
  rw [← e2]
  exact z
end
end K89
set_option Elab.async false
set_option linter.all false
set_option maxRecDepth 100000
set_option maxHeartbeats 4000000
/-! K89Q3: the law's end, for a def with the contract of K89Q2. -/
namespace K89
open PySem PySem.Spec PyProof.Rows L2
section
variable {P : Program} {w : World} {K : PySem.W.Frag} {mg mb : Str → Option Value} {k : Nat} {fa a : Addr} {fd : FuncData} {x : Str} {sp : Sp} {s1 : Shared} {vs : List Value} {ns : List Int}
/-- from a heap in which nothing but the script may be tracked -/
theorem endCore (KX : K.In s1.heap) (gl : s1.heap.Ns mainGlobals mg) (bl : s1.heap.Ns builtinsNs mb) (bb : ∀ x : Str, x ≠ "__name__" → mb x = bootBuiltins x) (lm : s1.heap.NoLimit) (gn : s1.gens = #[])
    (sc : s1.heap.get? a = some { cls := .type "list", data := .seq vs.toArray }) (hr : Room k callerA) (F : ∀ bs : Heap, FnG P w K mg bs k fa fd [x] sp) (bd : ∀ (s : Shared) (u : Value), BindsTo s fd ⟨[u], []⟩ [(x, u)])
    (H : Hp) (only : Only H) (ok : HOk P w H s1.heap) (hA : ∀ b, H b ≠ none → b = a) (hK : H a ≠ none → K.lookup a = none) (hs : sp [.ref a] H (fun v _ => v = .bl true) E0) :
    codeAny (model P w) callerA (.call (.ref fa) ⟨[.ref a], []⟩) (fun z t => z = .ok (.ret (.bool true)) ∧ OldK s1.heap t.heap ∧ t.os = s1.os ∧ AllBare t.gens) s1 := by
  have none_or : ∀ b, H b = none ∨ b = a := fun b => (Classical.em (H b = none)).imp id fun z => hA b z
  have noD : ∀ {b : Addr} {o : Obj} {es : Array DictEntry} {ep : Nat}, s1.heap.get? b = some o → o.data = .dict es ep → H b = none := fun {b o es ep} e d => (none_or b).elim id fun z => by
    rw [z, sc] at e
    cases e
    cases (show Data.seq vs.toArray _ = Data.dict es ep from d)
  have nsK : ∀ {b : Addr} {m : Str → Option Value}, s1.heap.Ns b m → (hidT s1.heap H).Ns b m := fun {b m} ⟨o, es, ep, e, d, r⟩ => ⟨o, es, ep, hidT_get e (noD e d), d, r⟩
  have kin : K.In (hidT s1.heap H) := fun b o e => hidT_get (KX b o e) (by
    by_cases z : H b = none
    · exact z
    · have z2 := hA b z
      subst z2
      rw [hK z] at e
      cases e)
  have md : Mod K mg (hidT s1.heap H) := ⟨kin, nsK gl, ⟨mb, nsK bl, bb⟩, let ⟨mc, l1, l2⟩ := lm; ⟨mc, nsK l1, l2⟩⟩
  have en : Env0 P w K mg (hidT s1.heap H) callerA [] s1 H := ⟨rfl, md, fun b o e => of_hidT e, Nat.le_of_eq (hidT_size _ _), trivial, fun b z => (List.not_mem_nil z).elim, ok, .of_eq gn⟩
  refine codeAny_mono ((F _).go callerA [] s1 H ⟨[.ref a], []⟩ [.ref a] [.ref a] _ _ rfl hr en (bd s1 (.ref a)) (.cons rfl .nil) hs) fun z t h => ?_
  match z, h with
  | .error e, h => exact h.elim
  | .ok .next, h => exact h.elim
  | .ok .brk, h => exact h.elim
  | .ok .cont, h => exact h.elim
  | .ok (.ret u), ⟨v, H2, os, bare, un, ok2, rv, q⟩ =>
    subst q
    cases (show u = Value.bool true from rv)
    refine ⟨rfl, OldK.of_keep fun b o e => ?_, os, bare⟩
    rcases only b with q | ⟨ob, xs, q⟩
    · exact un.keep b o e q (fun z => (List.not_mem_nil z).elim) (by simp)
    · obtain ⟨z1, _⟩ := ok b _ q
      obtain ⟨z2, _⟩ := ok2 b _ (un.frzs b ob _ q)
      rw [e] at z1
      cases z1
      exact z2
def scH (a : Addr) (o : HO) : Hp := fun b => if b = a then some o else none
theorem scH_same {a : Addr} {o : HO} : scH a o a = some o := if_pos rfl
theorem scH_ne {a b : Addr} {o : HO} (h : b ≠ a) : scH a o b = none := if_neg h
theorem endCall (KX : K.In s1.heap) (gl : s1.heap.Ns mainGlobals mg) (bl : s1.heap.Ns builtinsNs mb) (bb : ∀ x : Str, x ≠ "__name__" → mb x = bootBuiltins x) (lm : s1.heap.NoLimit) (gn : s1.gens = #[])
    (sc : s1.heap.get? a = some { cls := .type "list", data := .seq vs.toArray }) (hi : IntsAre vs ns) (hl : ns.length ≤ sizeLine) (hr : Room k callerA) (F : ∀ bs : Heap, FnG P w K mg bs k fa fd [x] sp) (bd : ∀ (s : Shared) (u : Value), BindsTo s fd ⟨[u], []⟩ [(x, u)])
    (hs : ∀ H : Hp, SqL K H a (ns.map V.int) → sp [.ref a] H (fun v _ => v = .bl true) E0) :
    codeAny (model P w) callerA (.call (.ref fa) ⟨[.ref a], []⟩) (fun z t => z = .ok (.ret (.bool true)) ∧ OldK s1.heap t.heap ∧ t.os = s1.os ∧ AllBare t.gens) s1 := by
  have rv := vals_ints hi
  have ln := hi.length
  cases hk : K.lookup a with
  | some o =>
    have e := KX a o hk
    rw [sc] at e
    cases e
    exact endCore KX gl bl bb lm gn sc hr F bd (fun _ => none) (fun _ => .inl rfl) (fun b u z => by cases z) (fun b z => absurd rfl z) (fun z => absurd rfl z)
      (hs _ (.inr ⟨_, vs.toArray, _, hk, rfl, rfl, rfl, by rw [List.size_toArray, ln]; exact hl, by simpa using rv⟩))
  | none =>
    have here := scH_same (a := a) (o := HO.frz { cls := .type "list", data := .seq vs.toArray } (.lst (ns.map V.int)))
    refine endCore KX gl bl bb lm gn sc hr F bd (scH a (HO.frz { cls := .type "list", data := .seq vs.toArray } (.lst (ns.map V.int)))) (fun b => ?_) (fun b u z => ?_) (fun b z => ?_) (fun _ => hk) (hs _ (.inl (.inr ⟨_, here⟩)))
    · by_cases z : b = a
      · exact .inr ⟨_, _, by rw [z]; exact here⟩
      · exact .inl (scH_ne z)
    · by_cases y : b = a
      · subst y
        rw [here] at z
        cases z
        exact ⟨sc, by rw [List.length_map]; exact hl, vs, _, rv, sc⟩
      · have z' := (scH_ne y).symm.trans z
        cases z'
    · by_cases y : b = a
      · exact y
      · exact absurd (scH_ne y) z
end
theorem walk_Q {l : PySem.W.OpenLaw} {n k : Nat} {q : Program} {loose : List Str} {XP : (Str → Option Value) → Heap → Prop} {YP : World → Heap → Prop} {d : DefRec} {x : Str}
    (hn : l.most = some n) (hn2 : n ≤ sizeLine) (hdf : d.params.defaults = []) (hr : Room k callerA)
    (F : ∀ (w : World) (mg : Str → Option Value) (fa : Addr) (h : Heap), YP w h → h.Ns mainGlobals mg → mg d.name = some (.ref fa) →
      ∃ (K : PySem.W.Frag) (fd : FuncData) (sp : Sp), K.In h ∧ (∀ (s : Shared) (u : Value), BindsTo s fd ⟨[u], []⟩ [(x, u)]) ∧
        (∀ (H : Hp) (a : Addr) (ns : List Int), ns.length ≤ n → SqL K H a (ns.map V.int) → sp [.ref a] H (fun v _ => v = .bl true) E0) ∧ ∀ bs : Heap, FnG l.prog w K mg bs k fa fd [x] sp) :
    PySem.W.WalkO q loose XP YP l.row.toRowW d [] (fun f vs => PySem.call f vs) := by
  refine Att.attach_call hn hdf fun w s₀ s1 mg mb fa o pm cd doc a vs ns G Y ho hd hcd hmg hobj hints hlen hgn => ?_
  obtain ⟨K, fd, sp, KX, hb, hsp, hF⟩ := F w mg fa _ Y G.T.g hmg
  exact endCall KX G.T.g G.T.b G.T.builtins G.T.nolimit hgn hobj hints (Nat.le_trans hlen hn2) hr hF hb fun H hS => hsp H a ns hlen hS
end K89
set_option Elab.async false
set_option linter.all false
set_option maxRecDepth 100000
set_option maxHeartbeats 4000000
/-! K89W21: the law's look at written letters. -/
namespace K89
open PySem PySem.Spec PyProof.Rows L2
section
variable {F B : Hp} {Γ : Gam} {M : List Mut1} {ta tb tc te : TE} {tas : TA} {t u : Ty} {ts us : List Ty} {K : PySem.W.Frag} {p : Addr} {m : MTy} {nx bk ct : L2.St → Hp → Prop} {rt : VK} {β : Type} {φ : β → Prop}
theorem e_anyE {α : Type} {xs : β → List α} {ψ : α → Bool → Prop} (h : EN te Γ M (mEx φ fun y => mL ((xs y).map fun x => tEx (ψ x) tB))) :
    K89.E (tCB (rAny K) (tCons te tNil)) Γ M (tEx (fun b : Bool => ∃ y, φ y ∧ (b = true → ∃ x ∈ xs y, ψ x true) ∧ (b = false → ∀ x ∈ xs y, ψ x false)) tB) := fun F B σ H G s g Q q => (h.lx) F B σ H G s g _ fun v H1 G1 s1 e1 a1 => by
  obtain ⟨y, hy, b, vs, rfl, eb, av⟩ := a1
  obtain ⟨zs, h1, h2, h3⟩ := at_exs av
  refine bi_any (K := K) (bs := zs) F B M H1 G1 [.ref b] s1 ⟨⟨b, vs, rfl, eb, h3⟩, trivial⟩ Q fun v2 H2 G2 s2 e2 a2 => q v2 H2 G2 s2 (e1.trans e2) ⟨_, ⟨y, hy, fun e => ?_, fun e => ?_⟩, a2⟩
  · obtain ⟨z, hz, ez⟩ := List.any_eq_true.mp e
    obtain ⟨i, hi⟩ := List.getElem?_of_mem hz
    have hi2 : i < (xs y).length := by rw [← h1]; exact (List.getElem?_eq_some_iff.mp hi).1
    have k := h2 i _ _ (List.getElem?_eq_getElem hi2) hi
    have ez' : z = true := ez
    rw [ez'] at k
    exact ⟨_, List.getElem_mem hi2, k⟩
  · intro x hx
    obtain ⟨i, hi⟩ := List.getElem?_of_mem hx
    have hi2 : i < zs.length := by rw [h1]; exact (List.getElem?_eq_some_iff.mp hi).1
    have k := h2 i _ _ hi (List.getElem?_eq_getElem hi2)
    have ez : zs[i] = false := by
      have := List.any_eq_false.mp e _ (List.getElem_mem hi2)
      simpa using this
    rw [ez] at k
    exact k
theorem e_fK3X {α : Type} {as : α → List Ty} {r : α → Ty} {E0 : XK} {a c : Ty} {f : β → Ty} (x : β → α) (h : EA tas Γ M [a, tEx φ f, c]) (hx : ∀ y, as (x y) = [c, f y, a]) (e : ∀ y, φ y → ∀ v G, (r (x y)).at_ v G → t.at_ v G) : K89.E (tCallK (spT as r) rv3 E0 tNil tas) Γ M t := fun F B σ H G s g Q q =>
  h F B σ H G s g _ fun vs H1 G1 s1 e1 a1 => by
    match vs, a1 with
    | [v1, v2, v3], ⟨k1, ⟨y, hy, k2⟩, k3, _⟩ =>
      refine e_sp (x y) s1 ?_ fun v H' G' s' e' a' => q v H' G' s' (e1.trans e') (e y hy v G' a')
      rw [hx]
      exact ⟨k3, k2, k1, trivial⟩
theorem e_notX {ψ : Bool → Prop} (h : K89.E te Γ M (tEx ψ tB)) : K89.E (tNotV te) Γ M (tEx (fun b => ψ (!b)) tB) := fun F B σ H G s g Q q => h F B σ H G s g _ fun v H' G' s' e' a => by
  obtain ⟨b, hb, a⟩ := a
  exact ⟨b, a, q _ H' G' s' e' ⟨!b, (by show ψ (!(!b)); rw [Bool.not_not]; exact hb), rfl⟩⟩
theorem rd_2 {t1 t2 : Ty} {d1 d2 : PyData} (h1 : Rd K t1 d1) (h2 : Rd K t2 d2) : Rd K (tL [t1, t2]) (.list [d1, d2]) := fun v H G e a => by
  obtain ⟨b, vs, rfl, eb, av⟩ := a
  match vs, av with
  | [x, y], av => exact .lst (SqL.of (e b _ eb)) (.cons (h1 x H G e av.1) (.cons (h2 y H G e av.2.1) .nil))
def dOn : Option Nat → PyData
  | none => .none
  | some h => .int (h : Int)
theorem rd_On {a : Option Nat} : Rd K (tOn a) (dOn a) := by
  cases a with
  | none => exact rd_N
  | some h => exact rd_n
theorem small_On {a : Option Nat} (h : ∀ x, a = some x → x < 1024) : Small 10 0 (dOn a) := by
  cases a with
  | none => exact small_none
  | some x => exact small_int (h x rfl)
theorem isNone_On {a : Option Nat} (v : V) (G : Hp) (h : (tOn a).at_ v G) : decide (v = .non) = a.isNone := by
  cases a with
  | none =>
    have h' : v = .non := h
    subst h'
    exact decide_eq_true rfl
  | some x =>
    have h' : v = .int (x : Int) := h
    subst h'
    exact decide_eq_false fun z => nomatch z
end
/-- the first that holds, of those below n -/
theorem first_of {n : Nat} {c : Nat → Bool} : match ((List.range n).filter c).head? with
    | none => ∀ h, h < n → c h = false
    | some a => a < n ∧ c a = true ∧ ∀ h, h < a → c h = false := by
  have inc : ((List.range n).filter c).Pairwise (· < ·) := List.Pairwise.filter _ List.pairwise_lt_range
  cases e : (List.range n).filter c with
  | nil =>
    intro h hh
    cases z : c h with
    | false => rfl
    | true =>
      have : h ∈ (List.range n).filter c := List.mem_filter.mpr ⟨List.mem_range.mpr hh, z⟩
      rw [e] at this
      cases this
  | cons a l =>
    have ma : a ∈ (List.range n).filter c := by rw [e]; exact List.mem_cons_self ..
    obtain ⟨m1, m2⟩ := List.mem_filter.mp ma
    refine ⟨List.mem_range.mp m1, m2, fun h hh => ?_⟩
    cases z : c h with
    | false => rfl
    | true =>
      have hm : h ∈ (List.range n).filter c := List.mem_filter.mpr ⟨List.mem_range.mpr (by have := List.mem_range.mp m1; omega), z⟩
      rw [e] at hm inc
      rcases List.mem_cons.mp hm with z2 | z2
      · omega
      · have : a < h := List.rel_of_pairwise_cons inc z2
        omega
/-- all that the look at written letters takes -/
structure Wr where
  x : Pc
  ke : List (List Nat)
  d : Kd x.rs ke
  ws : List Nat
  car : ∀ l ∈ ws, ∃ c, Car x.rs c ∧ c.1 = l
  wnd : ws.Nodup
  ds : List Nat
  hds : DueA d.ka ds
open Classical in
/-- an unwritten letter of the house is due -/
noncomputable def unw (y : Wr) (h : Nat) : Bool := decide (∃ l, DueH y.x.rs (y.ke.getD h []) h l ∧ l ∉ y.ws)
open Classical in
theorem unw_f {y : Wr} {h : Nat} (q : unw y h = false) : ∀ l, DueH y.x.rs (y.ke.getD h []) h l → l ∈ y.ws := fun l d => Classical.byContradiction fun n => by
  unfold unw at q
  exact of_decide_eq_false q ⟨l, d, n⟩
open Classical in
theorem unw_t {y : Wr} {h : Nat} (q : unw y h = true) : ∃ l, DueH y.x.rs (y.ke.getD h []) h l ∧ l ∉ y.ws := by
  unfold unw at q
  exact of_decide_eq_true q
abbrev Wr.ly (y : Wr) (fs : List Nat) : Ly := ⟨y.x.rs, y.x.R, y.ke, y.d, fs, y.ws⟩
theorem los_unw {y : Wr} {h : Nat} {b : Bool} (hh : h < y.x.rs.length) (L : LosP (y.ly [h]) b) : b = unw y h := by
  cases e : unw y h with
  | true =>
    obtain ⟨l, d, n⟩ := unw_t e
    exact los_one L rfl hh d n
  | false =>
    refine los_none L fun g hg => ?_
    rw [List.mem_singleton.mp hg]
    exact unw_f e
/-- all due ones are among the written -/
def Enough (y : Wr) (b : Bool) : Prop := b = true ↔ ∀ l, Due y.d.ka l → l ∈ y.ws
theorem enough_uniq {y : Wr} {a b : Bool} (h : Enough y a) (k : Enough y b) : a = b := Bool.eq_iff_iff.mpr (h.trans k.symm)
theorem enough_of {y : Wr} {LL : List (List Nat)} (h1 : ∀ h, h < y.x.rs.length → [h] ∈ LL) (h2 : ∀ L ∈ LL, ∀ h ∈ L, h < y.x.rs.length) {b : Bool} (k1 : b = true → ∃ L ∈ LL, LosP (y.ly L) true) (k2 : b = false → ∀ L ∈ LL, LosP (y.ly L) false) : Enough y (!b) := by
  cases b with
  | true =>
    obtain ⟨L, hL, lp⟩ := k1 rfl
    refine ⟨(fun z => nomatch z), fun q => ?_⟩
    have := los_none lp fun g hg l dl => q l ⟨g, h2 L hL g hg, dl⟩
    exact absurd this (by decide)
  | false =>
    refine ⟨fun _ l ⟨h, hh, dl⟩ => Classical.byContradiction fun n => ?_, fun _ => rfl⟩
    have lp := k2 rfl _ (h1 h hh)
    exact absurd (los_one lp rfl hh dl n) (by decide)
section
variable {P : Program} {w : World} {K : PySem.W.Frag} {mg : Str → Option Value}
theorem f__law_written_right (T : En K mg) : CalQ P w K mg "_law_written_right" 10 ["_law_made", "_law_rows_here", "_law_kept_here", "_law_written", "_law_due"] (spT (fun y : Wr => [y.x.t K, tRows false y.x.rs, tD (kvO false 0 y.ke), tL (y.ws.map tn), tL (y.ds.map tn)]) (fun _ => tB true)) := by
  have S : FnScope ["_law_made", "_law_rows_here", "_law_kept_here", "_law_written", "_law_due", "_law_is_so", "_law_lost", "_law_first", "_law_told", "_law_again", "_law_some", "_law_letter", "_law_house", "_law_place"] ["_law_made", "_law_rows_here", "_law_kept_here", "_law_written", "_law_due"] d__law_written_right.scope := ⟨rfl, rfl, rfl, by decide +kernel, rfl, by decide +kernel, by decide +kernel⟩
  refine CalQ.mk' (n := 9) T 51 45 rfl rfl rfl rfl rfl S rfl (fun _ => rfl) (fun _ _ _ _ _ _ us hl => match us, hl with | [_, _, _, _, _], _ => rfl) fun base cdv A outer s H EX HG hr => ⟨_, (pss_cons (ps_set (i := 5) S.nd rfl (Or.inl rfl) (pe_not (pe_callB (cr_any rfl) rfl T.any bo_any (pa_cons (pe_lc (own := [("_law_some", 10)]) rfl S.nd (pi_list (pe_f (f__law_lists T) (hr.mono (by decide)) rfl (pa_cons (pe_callB call_len rfl T.len bo_len (pa_cons (pv 1) pa_nil)) pa_nil))) (blkOk_by (own := [("_law_some", 10)]) (N := ["_law_made", "_law_rows_here", "_law_kept_here", "_law_written", "_law_due", "_law_is_so", "_law_lost", "_law_first", "_law_told", "_law_again", "_law_some", "_law_letter", "_law_house", "_law_place"]) (sc := d__law_written_right.scope) (by decide +kernel)) (fun _ _ _ _ _ => (pg_name (i := 10) S.nd rfl (Or.inl rfl))) (fun _ _ _ _ _ => pts_nil) (fun _ _ _ _ _ => (pe_f (f__law_loses T) (hr.mono (by decide)) rfl (pa_cons (pv 1) (pa_cons (pv 2) (pa_cons (pv 10) (pa_cons (pv 3) pa_nil))))))) pa_nil))))
      (pss_cons (ps_if (pt_cmpR op_ne (pv 5) (pe_callB (cr_all rfl) rfl T.all bo_all (pa_cons (pe_lc (own := [("_law_letter", 11)]) rfl S.nd (pi_list (pv 4)) (blkOk_by (own := [("_law_letter", 11)]) (N := ["_law_made", "_law_rows_here", "_law_kept_here", "_law_written", "_law_due", "_law_is_so", "_law_lost", "_law_first", "_law_told", "_law_again", "_law_some", "_law_letter", "_law_house", "_law_place"]) (sc := d__law_written_right.scope) (by decide +kernel)) (fun _ _ _ _ _ => (pg_name (i := 11) S.nd rfl (Or.inl rfl))) (fun _ _ _ _ _ => pts_nil) (fun _ _ _ _ _ => (pe_cmpR (op_in_seqK (K := K) rfl) (pv 11) (pv 3) rfl))) pa_nil)) (nomark _)) (pss_one (ps_ret pe_bl)) pss_nil)
      (pss_cons (ps_setLc (i := 6) (own := [("_law_house", 12)]) rfl S.nd rfl rfl (sw_true rfl rfl rfl (by decide +kernel)) (pi_range1 rfl T.range (pa_cons (pe_callB call_len rfl T.len bo_len (pa_cons (pv 1) pa_nil)) pa_nil)) (blkOk_by (own := [("_law_house", 12)]) (N := ["_law_made", "_law_rows_here", "_law_kept_here", "_law_written", "_law_due", "_law_is_so", "_law_lost", "_law_first", "_law_told", "_law_again", "_law_some", "_law_letter", "_law_house", "_law_place"]) (sc := d__law_written_right.scope) (by decide +kernel)) (fun _ _ _ _ _ => (pg_name (i := 12) S.nd rfl (Or.inl rfl))) (fun _ _ _ _ _ => (pts_one (pt_val (pe_f (f__law_loses T) (hr.mono (by decide)) rfl (pa_cons (pv 1) (pa_cons (pv 2) (pa_cons (pe_lst (pa_cons (pv 12) pa_nil)) (pa_cons (pv 3) pa_nil)))))))) (fun _ _ _ _ _ => (pv 12)))
      (pss_cons (ps_set (i := 7) S.nd rfl (Or.inr rfl) (pe_ifExp (pt_cmpR (op_neD hr.units) (pv 6) (pe_lst pa_nil) (nomark _)) (pe_ix ix_list (pv 6) pe_int (fun _ _ => rfl)) pe_non))
      (pss_cons (ps_set (i := 8) S.nd rfl (Or.inl rfl) (pe_lst (pa_cons (pe_f (f_are_enough T) (hr.mono (by decide)) rfl (pa_cons (pv 0) (pa_cons (pv 2) (pa_cons (pv 3) pa_nil)))) (pa_cons (pe_f (f_first_loss T) (hr.mono (by decide)) rfl (pa_cons (pv 0) (pa_cons (pv 2) (pa_cons (pv 3) pa_nil)))) pa_nil))))
      (pss_cons (ps_set (i := 9) S.nd rfl (Or.inl rfl) (pe_lst (pa_cons (pe_fK (ks := ["written", "kept", "picture"]) (g := rv3) (gV := rv3) T (f_are_enough T) 37 31 rfl rfl rfl rfl rfl (fun _ _ _ _ _ _ us ws hl => by obtain ⟨rfl, a, b, c, rfl⟩ := rv3_len hl; rfl) rv3_rel (hr.mono (by decide)) rfl (pk_cons (pe_callTy call_tOf rfl T.tuple bo_tuple (pa_cons (pv 3) pa_nil)) (pk_cons (pe_f (f__law_loose T) (hr.mono (by decide)) rfl (pa_cons (pv 2) pa_nil)) (pk_cons (pv 0) pk_nil)))) pa_nil)))
      (pss_cons (ps_expr (pe_bm PySem.F.plainAttrs_list PySem.F.slot_list_append PySem.F.type_list_append mt_append (pv 9) (pa_cons (pe_fK (ks := ["written", "kept", "picture"]) (g := rv3) (gV := rv3) T (f_first_loss T) 38 32 rfl rfl rfl rfl rfl (fun _ _ _ _ _ _ us ws hl => by obtain ⟨rfl, a, b, c, rfl⟩ := rv3_len hl; rfl) rv3_rel (hr.mono (by decide)) rfl (pk_cons (pe_revL (pv 3)) (pk_cons (pe_f (f__law_loose T) (hr.mono (by decide)) rfl (pa_cons (pv 2) pa_nil)) (pk_cons (pv 0) pk_nil)))) pa_nil)))
      (pss_cons (ps_if (PW.pt (pw_or (pt_cmpR op_ne (pe_callB (cr_repr HG (rm100 hr) T.sysM) rfl T.repr bo_repr (pa_cons (pe_lst (pa_cons (pv 8) (pa_cons (pv 9) pa_nil))) pa_nil)) (pe_callB (cr_repr HG (rm100 hr) T.sysM) rfl T.repr bo_repr (pa_cons (pe_op op_rep (pe_lst (pa_cons (pe_lst (pa_cons (pv 5) (pa_cons (pv 7) pa_nil))) pa_nil)) pe_int) pa_nil)) (nomark _)) (pw_or1 (pt_cmpR op_ne (pv 5) (pe_cmpR op_isNone (pv 7) pe_non (nomark _)) (nomark _))))) (pss_one (ps_ret pe_bl)) pss_nil)
      (pss_cons (ps_if (pt_cmpR op_isNone (pv 7) pe_non (nomark _)) (pss_one (ps_ret pe_bl)) pss_nil)
      (pss_one (ps_ret (pe_callB (cr_any rfl) rfl T.any bo_any (pa_cons (pe_lc (own := [("_law_house", 12), ("_law_place", 13)]) rfl S.nd (pi_list (pe_f (f_undone T) hr rfl (pa_cons (pv 0) (pa_cons (pv 2) (pa_cons (pe_lst (pa_cons (pv 7) pa_nil)) (pa_cons (pv 3) pa_nil)))))) (blkOk_by (own := [("_law_house", 12), ("_law_place", 13)]) (N := ["_law_made", "_law_rows_here", "_law_kept_here", "_law_written", "_law_due", "_law_is_so", "_law_lost", "_law_first", "_law_told", "_law_again", "_law_some", "_law_letter", "_law_house", "_law_place"]) (sc := d__law_written_right.scope) (by decide +kernel)) (fun _ _ _ _ _ => (pg_tupK (K := K) (n := 2) rfl rfl (pgs_cons (pg_name (i := 12) S.nd rfl (Or.inl rfl)) (pgs_cons (pg_name (i := 13) S.nd rfl (Or.inl rfl)) pgs_nil)))) (fun _ _ _ _ _ => pts_nil) (fun _ _ _ _ _ => (pe_cmpR op_ne (pv 12) (pv 7) (nomark _)))) pa_nil))))))))))))), ?_⟩
  rintro y F B Q q
  have n4 := y.x.R.n4
  have wl : y.ws.length ≤ 13 := by
    have h := sub_len (as := y.ws) (bs := (pls true y.x.rs).map (·.1)) y.wnd fun l hl => by
      obtain ⟨c, hc, rfl⟩ := y.car l hl
      exact List.mem_map.mpr ⟨(c.1, c.2.1), mem_pls.mpr hc.1, rfl⟩
    rw [List.length_map] at h
    exact Nat.le_trans h (Nat.le_trans pls_len y.x.R.tot)
  refine n_seq (n_asg (t := tEx (Enough y) tB) (E.imp (e_notX (e_anyE (xs := fun LL : List (List Nat) => LL) (ψ := fun L => LosP (y.ly L)) (en_mapX (f := fun L : List Nat => tL (L.map tn)) (srcx_list (e_f (⟨y.x.rs.length, n4⟩ : {n : Nat // n ≤ 4}) (ea_cons ((e_bi1 (e_var rfl) bi_len).to (by rw [List.length_map])) ea_nil))) (fun LL h => by have := h.2.2; omega) fun LL h L hL => ⟨_, tc_name (by decide), e_f (y.ly L) (ea_cons (e_var rfl) (ea_cons (e_var rfl) (ea_cons (e_var rfl) (ea_cons (e_var rfl) ea_nil))))⟩))) fun v G a => ?_) ?_)
  · obtain ⟨b, ⟨LL, ⟨h1, h2, _⟩, k1, k2⟩, a⟩ := a
    refine ⟨b, ?_, a⟩
    have z := enough_of (y := y) h1 h2 k1 k2
    rw [Bool.not_not] at z
    exact z
  refine n_ex (i := 5) rfl fun b0 hb0 => ?_
  have all0 : (y.ds.all fun l => decide (l ∈ y.ws)) = b0 := enough_uniq (y := y) (show Enough y _ from by
    unfold Enough
    rw [List.all_eq_true]
    exact ⟨fun z l hl => of_decide_eq_true (z l ((y.hds.mem l).mpr hl)), fun z l hl => decide_eq_true (z l ((y.hds.mem l).mp hl))⟩) hb0
  have dl := y.hds.len
  refine n_seq (n_ifF (et_test (e_neF (x := .bl b0) (y := .bl b0) (e_var rfl) ((e_allC (xs := y.ds) (f := fun l => decide (l ∈ y.ws)) (en_map (f := tn) (src_list (e_var rfl)) (by omega) fun l hl => ⟨_, tc_name (by decide), e_inN (tup := false) (neg := false) (e_var rfl) (e_var rfl)⟩)).to (congrArg tB all0)) rfl rfl)) (n_next ?_))
  refine n_seq (n_asg (t := tL (((List.range y.x.rs.length).filter (unw y)).map tn)) (EN.l (en_fil (f := tn) (u := tn) (c := unw y) (src_range1 (ea_cons ((e_bi1 (e_var rfl) bi_len).to (by rw [List.length_map])) ea_nil) (by omega)) (by rw [List.length_range]; omega) fun h hh => ⟨_, tc_name (by decide), et_test (E.imp (e_f (y.ly [h]) (ea_cons (e_var rfl) (ea_cons (e_var rfl) (ea_cons (EN.l (en_lst (ea_cons (e_var rfl) ea_nil) (by show 1 ≤ 100000; decide))) (ea_cons (e_var rfl) ea_nil))))) fun v G a => ?_), fun _ => e_var rfl⟩)) ?_)
  · obtain ⟨b, lp, a⟩ := a
    rw [los_unw (List.mem_range.mp hh) lp] at a
    exact a
  have fo := first_of (n := y.x.rs.length) (c := unw y)
  have hfl : FlP y.d.ka y.ws ((List.range y.x.rs.length).filter (unw y)).head? := by
    revert fo
    cases ((List.range y.x.rs.length).filter (unw y)).head? with
    | none => exact fun fo h hh => unw_f (fo h hh)
    | some a => exact fun fo => ⟨fo.1, unw_t fo.2.1, fun h hh => unw_f (fo.2.2 h hh)⟩
  generalize (List.range y.x.rs.length).filter (unw y) = ns at hfl
  refine n_seq (n_asg (t := tOn ns.head?) (e_if (φ := fun c => c = !ns.isEmpty) (et_test (e_neNil (e_var rfl))) (fun c => ?_) (fun c => ?_)) ?_)
  · cases ns with
    | nil => cases c
    | cons a ns => exact e_ixL (i := ((0 : Nat) : Int)) (e_var rfl) e_c (atI_n rfl)
  · cases ns with
    | nil => exact e_c
    | cons a ns => cases c
  generalize ns.head? = a0 at hfl
  have hba : b0 = a0.isNone := by
    have z := due_all hfl
    cases a0 with
    | none => exact hb0.mpr (z.mp rfl)
    | some a =>
      cases b0 with
      | false => rfl
      | true => exact absurd (z.mpr (hb0.mp rfl)) (fun w => nomatch w)
  have ae : ∀ (k : Ka y.x.rs) (ws : List Nat), k.ke = y.ke → (∀ l, l ∈ ws ↔ l ∈ y.ws) → ∀ b : Bool, (b = true ↔ ∀ l, Due k l → l ∈ ws) → b = b0 := fun k ws hk hw b hb => enough_uniq (y := y) (show Enough y b from by
    unfold Enough
    rw [hb]
    have e : ∀ l, Due k l ↔ Due y.d.ka l := fun l => by
      unfold Due
      rw [hk]
      exact Iff.rfl
    exact ⟨fun z l dl => (hw l).mp (z l ((e l).mpr dl)), fun z l dl => (hw l).mpr (z l ((e l).mp dl))⟩) hb0
  have fe : ∀ (k : Ka y.x.rs) (ws : List Nat), k.ke = y.ke → (∀ l, l ∈ ws ↔ l ∈ y.ws) → ∀ a, FlP k ws a → a = a0 := fun k ws hk hw a ha => fl_uniq (k := y.d.ka) (ws := y.ws) (by
    cases a with
    | none =>
      intro h hh l dl
      rw [← show k.ke = y.d.ka.ke from hk] at dl
      exact (hw l).mp (ha h hh l dl)
    | some x =>
      obtain ⟨x1, ⟨l, dl, nl⟩, x3⟩ := ha
      rw [show k.ke = y.d.ka.ke from hk] at dl
      refine ⟨x1, ⟨l, dl, fun m => nl ((hw l).mpr m)⟩, fun h hh l dl => ?_⟩
      rw [← show k.ke = y.d.ka.ke from hk] at dl
      exact (hw l).mp (x3 h hh l dl)) hfl
  refine n_seq (n_asg (t := tL [tB b0, tOn a0]) (EN.l (en_lst (ea_cons (E.imp (e_f (⟨y.x, y.d.ka, false, y.ws, y.car, y.wnd⟩ : Eq4) (ea_cons (e_var rfl) (ea_cons (e_var rfl) (ea_cons (e_var rfl) ea_nil)))) fun v G a => ?_) (ea_cons (E.imp (e_f (⟨y.x, y.d.ka, false, y.ws, y.car, y.wnd⟩ : Eq4) (ea_cons (e_var rfl) (ea_cons (e_var rfl) (ea_cons (e_var rfl) ea_nil)))) fun v G a => ?_) ea_nil)) (by show 2 ≤ 100000; decide))) ?_)
  · obtain ⟨b, hb, a⟩ := a
    rw [ae _ _ rfl (fun _ => Iff.rfl) b hb] at a
    exact a
  · obtain ⟨b, hb, a⟩ := a
    rw [fe _ _ rfl (fun _ => Iff.rfl) b hb] at a
    exact a
  refine n_seq (n_asgN (en_lst (ea_cons (e_fK3X (t := tB b0) (β := Ka y.x.rs) (φ := fun k => k.ke = y.ke ∧ k.tup = true) (fun k => (⟨y.x, k, true, y.ws, y.car, y.wnd⟩ : Eq4)) (ea_cons (e_bi1 (e_var rfl) bi_tuple) (ea_cons (e_f (⟨y.x.rs, y.ke, n4, y.d⟩ : Kz) (ea_cons (e_var rfl) ea_nil)) (ea_cons (e_var rfl) ea_nil))) (fun k => rfl) fun k hk v G a => ?_) ea_nil) (by show 1 ≤ 100000; decide)) fun pa => ?_)
  · obtain ⟨b, hb, a⟩ := a
    rw [ae _ _ hk.1 (fun _ => Iff.rfl) b hb] at a
    exact a
  refine n_seq (n_app (j := 0) (t := tOn a0) rfl (e_var rfl) (e_fK3X (β := Ka y.x.rs) (φ := fun k => k.ke = y.ke ∧ k.tup = true) (fun k => (⟨y.x, k, false, y.ws.reverse, fun l hl => y.car l (List.mem_reverse.mp hl), (List.pairwise_reverse.mpr (y.wnd.imp fun h => h.symm))⟩ : Eq4)) (ea_cons ((EN.l (en_rev (e_var rfl))).to (by rw [← List.map_reverse])) (ea_cons (e_f (⟨y.x.rs, y.ke, n4, y.d⟩ : Kz) (ea_cons (e_var rfl) ea_nil)) (ea_cons (e_var rfl) ea_nil))) (fun k => rfl) fun k hk v G a => ?_) (by show 1 < 100000; decide) ?_)
  · obtain ⟨b, hb, a⟩ := a
    rw [fe _ _ hk.1 (fun _ => List.mem_reverse) b hb] at a
    exact a
  refine n_frz (i := 9) (j := 0) rfl rfl ?_
  have a1024 : ∀ x, a0 = some x → x < 1024 := fun x e => by
    subst e
    have := hfl.1
    omega
  have r1 : Rd K (tL [tB b0, tOn a0]) (.list [.bool b0, dOn a0]) := rd_2 rd_b rd_On
  have s1 : Small 22 1 (.list [.bool b0, dOn a0]) := small_list (n := 2) (ds := [.bool b0, dOn a0]) (fun d hd => by
    rcases List.mem_cons.mp hd with rfl | hd
    · exact small_bool
    · rw [List.mem_singleton.mp hd]
      exact small_On a1024) (Nat.le_refl _)
  have s2 : Small 46 2 (.list [.list [.bool b0, dOn a0], .list [.bool b0, dOn a0]]) := small_list (n := 2) (ds := [.list [.bool b0, dOn a0], .list [.bool b0, dOn a0]]) (fun d hd => by
    rcases List.mem_cons.mp hd with rfl | hd
    · exact s1
    · rw [List.mem_singleton.mp hd]
      exact s1) (Nat.le_refl _)
  refine n_seq (n_ifF (et_or (b := false) (c := false) (et_test (e_neF (e_repr (EN.l (en_lst (ts := [tL [tB b0, tOn a0], tL [tB b0, tOn a0]]) (ea_cons (e_var rfl) (ea_cons (e_var rfl) ea_nil)) (by show 2 ≤ 100000; decide))) (rd_2 r1 r1) s2 (by decide) (by decide)) (e_repr (ts := [tL [tB b0, tOn a0], tL [tB b0, tOn a0]]) (EN.l (en_rep (n := 2) (EN.l (en_lst (ea_cons (EN.l (en_lst (ea_cons (e_var rfl) (ea_cons (e_var rfl) ea_nil)) (by show 2 ≤ 100000; decide))) ea_nil) (by show 1 ≤ 100000; decide))) e_c (by decide))) (rd_2 r1 r1) s2 (by decide) (by decide)) rfl rfl)) fun _ => et_test (e_neF (x := .bl b0) (y := .bl a0.isNone) (e_var rfl) (e_isNone (e_var rfl) isNone_On) rfl (congrArg V.bl hba))) (n_next ?_))
  cases a0 with
  | none =>
    refine n_seq (n_ifT (et_test (e_isNone (e_var rfl) (fun v G a => isNone_On (a := none) v G a))) (n_ret e_c fun v H G z1 z2 z3 a => q v H G z1 z2 z3 a))
  | some h0 =>
    obtain ⟨g1, ⟨l, g2, g3⟩, g4⟩ := hfl
    refine n_seq (n_ifF (et_test (e_isNone (e_var rfl) (fun v G a => isNone_On (a := some h0) v G a))) (n_next ?_))
    refine n_ret (E.imp (e_anyX (φ := fun us => UndP (⟨y.x, y.d.ka, [h0], fun f hf => (by rw [List.mem_singleton.mp hf]; exact g1), (List.nodup_cons.mpr ⟨List.not_mem_nil, List.nodup_nil⟩), false, y.ws, y.car, y.wnd⟩ : Aq) us ∧ us.length ≤ 1000) (xs := fun us : List (Nat × Nat) => us) (f := fun z => decide (z.1 ≠ h0)) (en_mapX (f := tPr) (srcx_list (e_f (⟨y.x, y.d.ka, [h0], fun f hf => (by rw [List.mem_singleton.mp hf]; exact g1), (List.nodup_cons.mpr ⟨List.not_mem_nil, List.nodup_nil⟩), false, y.ws, y.car, y.wnd⟩ : Aq) (ea_cons (e_var rfl) (ea_cons (e_var rfl) (ea_cons (EN.l (en_lst (ea_cons (e_var rfl) ea_nil) (by show 1 ≤ 100000; decide))) (ea_cons (e_var rfl) ea_nil)))))) (fun us h => by have := h.2; omega) fun us _ z hz => ⟨_, tc_2 (by decide) (by decide), (e_ne (e_var rfl) (e_var rfl) rfl).to ?_⟩)) fun v G a => ?_) q
    · refine congrArg tB ?_
      rw [vnat]
      by_cases e : z.1 = h0
      · rw [decide_eq_true e, decide_eq_false (fun q => q e)] <;> rfl
      · rw [decide_eq_false e, decide_eq_true e] <;> rfl
    · obtain ⟨us, ⟨hu, _⟩, a⟩ := a
      obtain ⟨z, z1, z2⟩ := und_other hu rfl g1 g2 g3
      have e : (us.any fun z => decide (z.1 ≠ h0)) = true := List.any_eq_true.mpr ⟨z, z1, decide_eq_true z2⟩
      have a' : v = .bl (us.any fun z => decide (z.1 ≠ h0)) := a
      rw [a', e]
      rfl
end
end K89
set_option Elab.async false
set_option linter.all false
set_option maxRecDepth 100000
set_option maxHeartbeats 4000000
/-! K89W22: the law itself. -/
namespace K89
open PySem PySem.Spec PyProof.Rows L2
section
variable {F B : Hp} {Γ : Gam} {M : List Mut1} {ta tb tc te : TE} {tas : TA} {t u : Ty} {ts us : List Ty} {K : PySem.W.Frag} {p : Addr} {m : MTy} {nx bk ct : L2.St → Hp → Prop} {rt : VK} {β : Type} {φ : β → Prop}
theorem EN.o {C : Addr} {as : List (Str × Ty)} (h : EN te Γ M (mO C as)) : K89.E te Γ M (tO C as) := fun F B σ H G s g Q q => h F B σ H G s g Q fun p H' G' s' e' => by
  obtain ⟨_, k2, o, k3, dx, fs, k4, k5⟩ := s'.mm p _ (List.mem_cons_self ..)
  subst k4
  obtain ⟨s2, e2⟩ := s'.frz0 k3
  exact q _ H' _ s2 (e'.trans e2) ⟨p, dx, fs, rfl, upd_same, k5.mono e2⟩
theorem sp_N {α : Type} {as : α → List Ty} {m1 : α → MTy} {E0 : XK} (x : α) {F B H G : Hp} (s : Hs F B M H G) {vs : List V} (a : At (as x) vs G) {Q : VK} (q : ∀ p H' G', Hs F B ((p, m1 x) :: M) H' G' → Er G G' → Q (.ref p) H') : spN as m1 vs H Q E0 := by
  refine ⟨x, G, s.er, a, fun p H' G' e2 e3 f fp gp ho => q p H' G' ?_ e2⟩
  have s2 := s.frm e2 e3 fun b o h1 h2 => f b o (frm_of h1 h2)
  refine ⟨s2.er, s2.eb, s2.fr, fun b n z => ?_, List.nodup_cons.mpr ⟨fun z => ?_, s2.nd⟩⟩
  · rcases List.mem_cons.mp z with z | z
    · cases z
      refine ⟨?_, gp, ho⟩
      cases w : F p with
      | none => rfl
      | some u =>
        obtain ⟨h1, h2⟩ := s.fr p u w
        rw [frm_of h2 h1] at fp
        cases fp
    · exact s2.mm b n z
  · obtain ⟨⟨b, n⟩, z1, z2⟩ := List.mem_map.mp z
    have z3 : b = p := z2
    subst z3
    obtain ⟨_, h2, o, h3, _⟩ := s.mm b n z1
    rw [frm_of h2 h3] at fp
    cases fp
theorem en_fK2X {α : Type} {as : α → List Ty} {m1 : α → MTy} {E0 : XK} {b : Ty} {f : β → Ty} (x : β → α) (h : EA tas Γ M [tEx φ f, b]) (hx : ∀ y, as (x y) = [b, f y]) (e : ∀ y, φ y → ∀ o G, (m1 (x y)).at_ o G → m.at_ o G) : EN (tCallK (spN as m1) rv2 E0 tNil tas) Γ M m := fun F B σ H G s g Q q =>
  h F B σ H G s g _ fun vs H1 G1 s1 e1 a1 => by
    match vs, a1 with
    | [v1, v2], ⟨⟨y, hy, k1⟩, k2, _⟩ =>
      refine sp_N (x y) s1 (vs := rv2 [] [v1, v2]) (by rw [hx]; exact ⟨k2, k1, trivial⟩) fun p H' G' s' e' => q p H' G' ?_ (e1.trans e')
      exact ⟨s'.er, s'.eb, s'.fr, fun a n z => by
        rcases List.mem_cons.mp z with z | z
        · cases z
          obtain ⟨z1, z2, o, z3, z4⟩ := s'.mm p _ (List.mem_cons_self ..)
          exact ⟨z1, z2, o, z3, e y hy o G' z4⟩
        · exact s'.mm a n (List.mem_cons_of_mem _ z), s'.nd⟩
/-- f(g(..)), g's new object being the one that f may change -/
theorem e_fMN {α : Type} {as : α → Addr → List Ty} {m0 m1 : α → MTy} {r : α → Ty} {E0 : XK} (x : α) (h : EN te Γ M (m0 x)) (hx : ∀ p, as x p = [tR p]) (e : r x = t := by rfl) : K89.E (tCall (spM as m0 m1 r) [] E0 (tCons te tNil)) Γ M t := fun F B σ H G s g Q q =>
  h F B σ H G s g _ fun p H1 G1 s1 e1 => by
    show spM as m0 m1 r ([V.ref p] ++ []) H1 Q E0
    refine sp_M (M := (p, m0 x) :: M) (j := 0) x s1 rfl (by rw [hx]; exact ⟨rfl, trivial⟩) fun v H' G' s' e' a' => ?_
    have s2 : Hs F B M H' G' := Hs.tail s'
    refine q v H' G' s2 (e1.trans e') ?_
    rw [← e]
    exact a'
end

/-! ### the kept states' look as data -/
def ksD (k : List Nat) : PyData := .list (k.map fun n : Nat => .int (n : Int))
def kvD : Nat → List (List Nat) → List (PyData × PyData)
  | _, [] => []
  | h, k :: ks => (.int (h : Int), ksD k) :: kvD (h + 1) ks
theorem kvD_reads {K : PySem.W.Frag} {H G : Hp} (e : Er G H) : ∀ {ks : List (List Nat)} {h : Nat} {ws : List (Key × V)}, AtD (kvO false h ks) ws G → DpAll K H (ws.map fun z => kV z.1) ((kvD h ks).map (·.1)) ∧ DpAll K H (ws.map (·.2)) ((kvD h ks).map (·.2))
  | [], h, [], _ => ⟨.nil, .nil⟩
  | [], _, _ :: _, a => a.elim
  | k :: ks, h, [], a => a.elim
  | k :: ks, h, (kk, v) :: ws, a => by
    obtain ⟨a1, a2, a3⟩ := a
    obtain ⟨i1, i2⟩ := kvD_reads e a3
    refine ⟨.cons ?_ i1, .cons (rd_L (f := tn) (g := fun n : Nat => PyData.int (n : Int)) (fun x => rd_n) v H G e a2) i2⟩
    have a1' : kk = kn h := a1
    rw [a1']
    exact .int _
structure SmallK (w e : Nat) (kds : List (PyData × PyData)) : Prop where
  sh : PyData.showableKv kds = true
  sz : PyData.leavesShortKv 13 kds = true
  wt : PyData.weightKv kds ≤ (w + w + 2) * kds.length
  dp : PyData.depthKv kds ≤ e
  n1 : PyData.hasDictAll (kds.map (·.1)) = false
  n2 : PyData.hasDictAll (kds.map (·.2)) = false
theorem small_kv {w e : Nat} : ∀ {kds : List (PyData × PyData)}, (∀ d ∈ kds, Small w e d.1 ∧ Small w e d.2) → SmallK w e kds
  | [], _ => ⟨by simp [PyData.showableKv], by simp [PyData.leavesShortKv], by simp [PyData.weightKv], by simp [PyData.depthKv], by simp [PyData.hasDictAll], by simp [PyData.hasDictAll]⟩
  | (a, b) :: kds, h => by
    obtain ⟨x, y⟩ := h (a, b) (List.mem_cons_self ..)
    have z := small_kv fun d hd => h d (List.mem_cons_of_mem _ hd)
    have e1 : (w + w + 2) * ((a, b) :: kds).length = (w + w + 2) * kds.length + (w + w + 2) := by rw [List.length_cons, Nat.mul_succ]
    refine ⟨?_, ?_, ?_, ?_, ?_, ?_⟩
    · simp only [PyData.showableKv, x.sh, y.sh, z.sh, Bool.and_self]
    · simp only [PyData.leavesShortKv, x.sz, y.sz, z.sz, Bool.and_self]
    · simp only [PyData.weightKv]
      have := x.wt
      have := y.wt
      have := z.wt
      dsimp only at *
      omega
    · simp only [PyData.depthKv]
      have := x.dp
      have := y.dp
      have := z.dp
      dsimp only at *
      omega
    · simp only [List.map_cons, PyData.hasDictAll, x.nd, z.n1, Bool.or_self]
    · simp only [List.map_cons, PyData.hasDictAll, y.nd, z.n2, Bool.or_self]
theorem Small.up {w e w' e' : Nat} {d : PyData} (s : Small w e d) (h : w ≤ w') (k : e ≤ e') : Small w' e' d := ⟨s.sh, s.sz, Nat.le_trans s.wt h, Nat.le_trans s.dp k, s.nd⟩
theorem small_nats {ns : List Nat} {n : Nat} (h : ∀ x ∈ ns, x < 1024) (hn : ns.length ≤ n) : Small (11 * n) 1 (.list (ns.map fun x : Nat => .int (x : Int))) := small_list (w := 10) (n := n) (fun d hd => by
  obtain ⟨x, hx, rfl⟩ := List.mem_map.mp hd
  exact small_int (h x hx)) (by rw [List.length_map]; exact hn)
theorem kvD_small : ∀ {ks : List (List Nat)} {h : Nat}, h + ks.length ≤ 1000 → (∀ k ∈ ks, k.length ≤ 14 ∧ ∀ x ∈ k, x < 1024) → ∀ d ∈ kvD h ks, Small 154 1 d.1 ∧ Small 154 1 d.2
  | [], _, _, _, _, m => by cases m
  | k :: ks, h, hl, hk, d, m => by
    rw [List.length_cons] at hl
    rcases List.mem_cons.mp m with rfl | m
    · have k1 := hk k (List.mem_cons_self ..)
      exact ⟨(small_int (by omega)).up (by decide) (by decide), small_nats (n := 14) k1.2 k1.1⟩
    · exact kvD_small (by omega) (fun k m => hk k (List.mem_cons_of_mem _ m)) d m
theorem kvD_len : ∀ {ks : List (List Nat)} {h : Nat}, (kvD h ks).length = ks.length
  | [], _ => rfl
  | k :: ks, h => by rw [kvD, List.length_cons, List.length_cons, kvD_len]
section
variable {F B : Hp} {Γ : Gam} {M : List Mut1} {te : TE} {K : PySem.W.Frag}
theorem e_reprK {ks : List (List Nat)} (h : K89.E te Γ M (tD (kvO false 0 ks))) (hl : ks.length ≤ 4) (hk : ∀ k ∈ ks, k.length ≤ 14 ∧ ∀ x ∈ k, x < 1024) : K89.E (tCB (rRepr K) (tCons te tNil)) Γ M (tS (PyData.dict (kvD 0 ks)).shown) := fun F B σ H G s1 g Q q => h F B σ H G s1 g _ fun v H1 G1 s2 e1 a => by
  obtain ⟨b, o, ws, rfl, eb, av⟩ := a
  obtain ⟨r1, r2⟩ := kvD_reads (K := K) s2.er av
  have sk := small_kv (kvD_small (h := 0) (by omega) hk)
  have w1 := sk.wt
  rw [kvD_len] at w1
  have d1 := sk.dp
  refine ⟨b, _, rfl, .dict (s2.er _ _ eb) r1 r2 sk.n1 sk.n2, by simp only [PyData.showable]; exact sk.sh, PyData.shown_fits (B := 13) (by decide) (by decide) (by simp only [PyData.leavesShort]; exact sk.sz) ?_, ?_, q _ H1 G1 s2 e1 rfl⟩
  · simp only [PyData.weight]
    have : (154 + 154 + 2) * ks.length ≤ 310 * 4 := Nat.mul_le_mul_left _ hl
    omega
  · simp only [PyData.depth]
    omega
end

/-! ### one kept list more -/
theorem dPut_ex {β : Type} {φ : β → Prop} {f : β → Ty} {k : Key} {G : Hp} : ∀ {as : List (Key × Ty)} {ws : List (Key × V)}, AtD (dPut k (tEx φ f) as) ws G → ∃ y, φ y ∧ AtD (dPut k (f y) as) ws G
  | [], [], a => a.elim
  | [], [(kk, v)], a => by
    obtain ⟨a1, ⟨y, hy, a2⟩, a3⟩ := a
    exact ⟨y, hy, a1, a2, a3⟩
  | [], _ :: _ :: _, a => a.2.2.elim
  | e :: as, ws, a => by
    unfold dPut at a ⊢
    by_cases z : e.1 = k
    · rw [if_pos z] at a
      match ws, a with
      | (kk, v) :: ws, ⟨a1, ⟨y, hy, a2⟩, a3⟩ => exact ⟨y, hy, by rw [if_pos z]; exact ⟨a1, a2, a3⟩⟩
    · rw [if_neg z] at a
      match ws, a with
      | (kk, v) :: ws, ⟨a1, a2, a3⟩ =>
        obtain ⟨y, hy, a4⟩ := dPut_ex a3
        exact ⟨y, hy, by rw [if_neg z]; exact ⟨a1, a2, a4⟩⟩
theorem kvO_put {ms : List Nat} : ∀ {ks : List (List Nat)} {o h : Nat}, h < ks.length → dPut (kn (o + h)) (tL (ms.map tn)) (kvO false o ks) = kvO false o (ks.set h ms)
  | [], _, _, hh => absurd hh (Nat.not_lt_zero _)
  | k :: ks, o, 0, _ => by
    show (if kn o = kn (o + 0) then _ else _) = _
    rw [if_pos (by rw [Nat.add_zero])]
    rfl
  | k :: ks, o, h + 1, hh => by
    show (if kn o = kn (o + (h + 1)) then _ else (kn o, tSq false (k.map tn)) :: dPut _ _ (kvO false (o + 1) ks)) = _
    rw [if_neg fun e => by have := kn_inj e; omega]
    have e : o + (h + 1) = (o + 1) + h := by omega
    rw [e, kvO_put (by simpa using hh)]
    rfl
theorem merge_app : ∀ {as bs xs : List (Key × Ty)}, mergeT xs (as ++ bs) = mergeT (mergeT xs as) bs
  | [], _, _ => rfl
  | a :: as, bs, xs => by
    show mergeT (dPut a.1 a.2 xs) (as ++ bs) = _
    rw [merge_app]
    rfl
theorem merge_kvO {ks : List (List Nat)} {b : Key × Ty} : mergeT [] (kvO false 0 ks ++ [b]) = dPut b.1 b.2 (kvO false 0 ks) := by
  rw [merge_app, merge_new (as := []) (bs := kvO false 0 ks)]
  · rfl
  · rw [List.nil_append, kvO_keys]
    exact List.pairwise_map.mpr ((List.nodup_range').imp fun ne e => ne (kn_inj e))
/-- letters that may be written -/
structure WrOk (rs : List Row) (ws : List Nat) : Prop where
  car : ∀ l ∈ ws, ∃ c, Car rs c ∧ c.1 = l
  nd : ws.Nodup
theorem WrOk.sub {rs : List Row} {ws vs : List Nat} (h : WrOk rs ws) (k : vs.Sublist ws) : WrOk rs vs := ⟨fun l hl => h.car l (k.subset hl), h.nd.sublist k⟩
theorem car_len {rs : List Row} (R : Rs rs) {ws : List Nat} (h : WrOk rs ws) : ws.length ≤ 13 := by
  have k := sub_len (as := ws) (bs := (pls true rs).map (·.1)) h.nd fun l hl => by
    obtain ⟨c, hc, rfl⟩ := h.car l hl
    exact List.mem_map.mpr ⟨(c.1, c.2.1), mem_pls.mpr hc.1, rfl⟩
  rw [List.length_map] at k
  exact Nat.le_trans k (Nat.le_trans pls_len R.tot)
theorem car_of {rs : List Row} (R : Rs rs) {h p l : Nat} (q : letAt false rs h p = some l) : ∃ c, Car rs c ∧ c.1 = l := by
  obtain ⟨s, p', k⟩ := let_says R q
  exact ⟨(l, (s, p'), (h, p)), ⟨k, q⟩, rfl⟩
theorem due_wr {rs : List Row} (R : Rs rs) {k : Ka rs} {ds : List Nat} (h : DueA k ds) : WrOk rs ds := ⟨fun l hl => by
  obtain ⟨g, _, p, h1, _⟩ := (h.mem l).mp hl
  exact car_of R h1, h.inc.imp fun x => Nat.ne_of_lt x⟩
theorem low_of {rs : List Row} (R : Rs rs) {ws : List Nat} (h : WrOk rs ws) : ∀ l ∈ ws, l < 1024 := fun l hl => by
  obtain ⟨c, hc, rfl⟩ := h.car l hl
  obtain ⟨g, t, q⟩ := let_say hc.1
  have := R.good.low _ _ _ _ _ q
  omega
abbrev tW (rs : List Row) : Ty := tEx (WrOk rs) fun ws => tL (ws.map tn)
theorem cut_map {α β : Type} {f : α → β} {xs : List α} {lo hi : Option Int} : cutA (xs.map f) lo hi = (cutA xs lo hi).map f := by
  unfold cutA
  rw [List.length_map, List.map_take, List.map_drop]
/-- without the one at i -/
theorem cut_sub {α : Type} {xs : List α} {i : Nat} (h : i ≤ xs.length) : (cutA xs none (some (i : Int)) ++ cutA xs (some ((i : Int) + 1)) none).Sublist xs := by
  have e1 : cutA xs none (some (i : Int)) = xs.take i := cut_take h
  have e2 : HT.sIx xs.length 0 (some ((i : Int) + 1)) = min (i + 1) xs.length := by
    have := HT.sIx_nat xs.length 0 (i + 1)
    rw [show (((i + 1 : Nat)) : Int) = (i : Int) + 1 by omega] at this
    exact this
  rw [e1]
  unfold cutA
  rw [e2]
  have e3 : xs = xs.take i ++ xs.drop i := (List.take_append_drop i xs).symm
  have s1 : (xs.drop (min (i + 1) xs.length)).Sublist (xs.drop i) := by
    have e4 : min (i + 1) xs.length = i + (min (i + 1) xs.length - i) := by omega
    rw [e4, ← List.drop_drop]
    exact List.drop_sublist _ _
  have s2 := (List.take_sublist (HT.sIx xs.length xs.length none - min (i + 1) xs.length) _).trans s1
  have s3 := (List.Sublist.refl (xs.take i)).append s2
  rw [List.take_append_drop] at s3
  exact s3
end K89
set_option Elab.async false
set_option linter.all false
set_option maxRecDepth 100000
set_option maxHeartbeats 4000000
/-! K89W23: the law, walked. -/
namespace K89
open PySem PySem.Spec PyProof.Rows L2
theorem kd_set {rs : List Row} {ke : List (List Nat)} (d : Kd rs ke) {h : Nat} (hh : h < rs.length) {ms : List Nat} (ok : KeOk (sz rs h) ms) : Kd rs (ke.set h ms) := ⟨by rw [List.length_set]; exact d.len, fun g hg => by
  rw [List.getD_eq_getElem?_getD, List.getElem?_set]
  by_cases z : h = g
  · subst z
    rw [if_pos rfl, if_pos (by rw [d.len]; exact hh)]
    exact ok
  · rw [if_neg z]
    have := d.ok g hg
    rw [List.getD_eq_getElem?_getD] at this
    exact this⟩
theorem kd_small {rs : List Row} (R : Rs rs) {ke : List (List Nat)} (d : Kd rs ke) : ∀ k ∈ ke, k.length ≤ 14 ∧ ∀ x ∈ k, x < 1024 := fun k hk => by
  obtain ⟨h, hh⟩ := List.getElem?_of_mem hk
  have hl := (List.getElem?_eq_some_iff.mp hh).1
  have ok := d.ok h (by rw [← d.len]; exact hl)
  rw [List.getD_eq_getElem?_getD, hh] at ok
  have ok' : KeOk (sz rs h) k := ok
  have s := R.sz h
  have := ok'.len
  exact ⟨by omega, fun x hx => by have := ok'.le hx; omega⟩
structure MoreOk (rs : List Row) (ke : List (List Nat)) (h : Nat) (ms : List Nat) : Prop where
  ok : KeOk (sz rs h) ms
  sub : ∀ s ∈ ke.getD h [], s ∈ ms
theorem at_lastX {β : Type} {φ : β → Prop} {f : β → Ty} {G : Hp} : ∀ {ts : List Ty} {vs : List V}, At (ts ++ [tEx φ f]) vs G → ∃ y, φ y ∧ At (ts ++ [f y]) vs G
  | [], [], a => a.elim
  | [], v :: vs, ⟨⟨y, hy, a⟩, b⟩ => ⟨y, hy, a, b⟩
  | t :: ts, [], a => a.elim
  | t :: ts, v :: vs, ⟨a, b⟩ => by
    obtain ⟨y, hy, c⟩ := at_lastX b
    exact ⟨y, hy, a, c⟩
section
variable {P : Program} {w : World} {K : PySem.W.Frag} {mg : Str → Option Value}
theorem f__law_right (T : En K mg) : CalQ P w K mg "_law_right" 11 ["_law_pot_here"] (spM (fun (_ : Unit) p => [tR p]) (fun _ => mPot) (fun _ => mPot) (fun _ => tB true)) := by
  have S : FnScope ["_law_pot_here", "_law_rows_here", "_law_made", "_law_kept_here", "_law_heard", "_law_due", "_law_shown", "_law_turn", "_law_told", "_law_some", "_law_at", "_law_written", "_law_house", "_law_more", "_law_letter"] ["_law_pot_here"] d__law_right.scope := ⟨rfl, rfl, rfl, by decide +kernel, rfl, by decide +kernel, by decide +kernel⟩
  refine CalQ.mkM' (n := 14) T 52 46 rfl rfl rfl rfl rfl S rfl (fun _ _ => rfl) (fun _ _ _ _ _ _ us hl => match us, hl with | [_], _ => rfl) fun base cdv A outer s H EX HG hr => ⟨_, (pss_cons (ps_set (i := 1) S.nd rfl (Or.inl rfl) (pe_f (f__law_rows T) (hr.mono (by decide)) rfl (pa_cons (pv 0) (pa_cons pe_int pa_nil))))
      (pss_cons (ps_par3 (i := 2) (j := 3) (l := 4) rfl S.nd rfl rfl rfl (by decide) (by decide) (by decide) rfl rfl rfl (pa_cons (pe_mk T.mkr (m___init__ T) (hr.mono (by decide)) rfl T.gloP (pa_cons (pv 1) pa_nil)) (pa_cons (pe_f (f__law_kept T) (hr.mono (by decide)) rfl (pa_cons (pv 0) (pa_cons (pv 1) pa_nil))) (pa_cons (pe_f (f__law_heard_letters T) (hr.mono (by decide)) rfl (pa_cons (pv 1) pa_nil)) pa_nil))) rfl)
      (pss_cons (ps_asg (pe_tup (pa_cons (pe_f (f__law_to_write T) (hr.mono (by decide)) rfl (pa_cons (pv 1) (pa_cons (pv 3) (pa_cons (pv 4) pa_nil)))) (pa_cons (pe_callB (cr_repr HG (rm100 hr) T.sysM) rfl T.repr bo_repr (pa_cons (pv 3) pa_nil)) pa_nil))) (pg_tup rfl (pgs_cons (pg_name (i := 5) S.nd rfl (Or.inr rfl)) (pgs_cons (pg_name (i := 6) S.nd rfl (Or.inl rfl)) pgs_nil))))
      (pss_cons (ps_for PassesOwn.never rfl (pi_range1 rfl T.range (pa_cons pe_int pa_nil)) (pg_name (i := 7) S.nd rfl (Or.inl rfl)) (pss_cons (ps_set (i := 8) S.nd rfl (Or.inl rfl) (pe_ifExp (pt_cmpR op_eq (pv 7) pe_int (nomark _)) (pe_f (f_to_write T) (hr.mono (by decide)) rfl (pa_cons (pv 2) (pa_cons (pv 3) pa_nil))) (pe_fK (ks := ["kept", "picture"]) (g := rv2) (gV := rv2) T (f_to_write T) 36 30 rfl rfl rfl rfl rfl (fun _ _ _ _ _ _ us ws hl => by obtain ⟨rfl, a, b, rfl⟩ := rv2_len hl; rfl) rv2_rel (hr.mono (by decide)) rfl (pk_cons (pe_f (f__law_loose T) (hr.mono (by decide)) rfl (pa_cons (pv 3) pa_nil)) (pk_cons (pv 2) pk_nil)))))
      (pss_cons (ps_if (pt_cmpR op_ne (pe_callB (cr_repr HG (rm100 hr) T.sysM) rfl T.repr bo_repr (pa_cons (pv 8) pa_nil)) (pe_callB (cr_repr HG (rm100 hr) T.sysM) rfl T.repr bo_repr (pa_cons (pv 5) pa_nil)) (nomark _)) (pss_one (ps_ret pe_bl)) pss_nil)
      (pss_one (ps_expr (pe_bm PySem.F.plainAttrs_list PySem.F.slot_list_append PySem.F.type_list_append mt_append (pv 8) (pa_cons pe_int pa_nil)))))))
      (pss_cons (ps_setLc (i := 9) (own := [("_law_letter", 14)]) rfl S.nd rfl rfl (sw_true rfl rfl rfl (by decide +kernel)) (pi_list (pe_callB (call_sDI rfl) rfl T.sorted bo_sorted (pa_cons (pv 4) pa_nil))) (blkOk_by (own := [("_law_letter", 14)]) (N := ["_law_pot_here", "_law_rows_here", "_law_made", "_law_kept_here", "_law_heard", "_law_due", "_law_shown", "_law_turn", "_law_told", "_law_some", "_law_at", "_law_written", "_law_house", "_law_more", "_law_letter"]) (sc := d__law_right.scope) (by decide +kernel)) (fun _ _ _ _ _ => (pg_name (i := 14) S.nd rfl (Or.inl rfl))) (fun _ _ _ _ _ => (pts_one (pt_cmpR op_eq (pe_f (f__law_draw T) (hr.mono (by decide)) rfl (pa_cons (pv 0) (pa_cons pe_int pa_nil))) pe_int (nomark _)))) (fun _ _ _ _ _ => (pv 14)))
      (pss_cons (ps_set (i := 10) S.nd rfl (Or.inl rfl) (pe_f (f__law_draw T) (hr.mono (by decide)) rfl (pa_cons (pv 0) (pa_cons (pe_op op_add (pe_callB call_len rfl T.len bo_len (pa_cons (pv 5) pa_nil)) pe_int) pa_nil))))
      (pss_cons (ps_for PassesOwn.never rfl (pi_list (pe_lst (pa_cons (pv 9) (pa_cons (pv 5) (pa_cons (pe_op op_cat (pe_slice sl_list (pv 5) po_none (po_some (pv 10))) (pe_slice sl_list (pv 5) (po_some (pe_op op_add (pv 10) pe_int)) po_none)) (pa_cons (pe_f (f__law_pick T) (hr.mono (by decide)) rfl (pa_cons (pv 0) (pa_cons (pe_lst (pa_cons (pe_callB (call_sDI rfl) rfl T.sorted bo_sorted (pa_cons (pv 4) pa_nil)) (pa_cons (pe_lst pa_nil) (pa_cons (pe_callB (cr_sortedSet rfl) rfl T.sorted bo_sorted (pa_cons (pe_callTy (cr_setLD rfl) rfl T.set bo_set (pa_cons (pe_op op_cat (pv 5) (pv 9)) pa_nil)) pa_nil)) pa_nil)))) pa_nil))) pa_nil)))))) (pg_name (i := 11) S.nd rfl (Or.inl rfl)) (pss_one (ps_if (pt_not (pt_val (pe_fQ (f__law_written_right T) HG hr rfl (pa_cons (pv 2) (pa_cons (pv 1) (pa_cons (pv 3) (pa_cons (pv 11) (pa_cons (pv 5) pa_nil)))))))) (pss_one (ps_ret pe_bl)) pss_nil)))
      (pss_cons (ps_set (i := 12) S.nd rfl (Or.inl rfl) (pe_f (f__law_draw T) (hr.mono (by decide)) rfl (pa_cons (pv 0) (pa_cons (pe_callB call_len rfl T.len bo_len (pa_cons (pv 1) pa_nil)) pa_nil))))
      (pss_cons (ps_set (i := 13) S.nd rfl (Or.inl rfl) (pe_fz (pe_callTy (call_dcP rfl) rfl T.dict bo_dict (pa_cons (pe_op op_cat (pe_itemsF rfl (pv 3) rfl T.list bo_list) (pe_lst (pa_cons (pe_tup (pa_cons (pv 12) (pa_cons (pe_callB (cr_sortedSet rfl) rfl T.sorted bo_sorted (pa_cons (pe_callTy (cr_setLD rfl) rfl T.set bo_set (pa_cons (pe_op op_cat (pe_dget (hu_of hr) (pv 3) (pv 12) (fun _ _ => rfl)) (pe_lst (pa_cons (pe_f (f__law_draw T) (hr.mono (by decide)) rfl (pa_cons (pv 0) (pa_cons (pe_op op_add (pe_callB call_len rfl T.len bo_len (pa_cons (pe_ix ix_list (pv 1) (pv 12) (fun _ _ => rfl)) pa_nil)) pe_int) pa_nil))) pa_nil))) pa_nil)) pa_nil)) pa_nil))) pa_nil))) pa_nil))))
      (pss_one (ps_ret (pe_and (pe_callB (cr_all rfl) rfl T.all bo_all (pa_cons (pe_lc (own := [("_law_letter", 14)]) rfl S.nd (pi_list (pe_f (f_to_write T) (hr.mono (by decide)) rfl (pa_cons (pv 2) (pa_cons (pv 13) pa_nil)))) (blkOk_by (own := [("_law_letter", 14)]) (N := ["_law_pot_here", "_law_rows_here", "_law_made", "_law_kept_here", "_law_heard", "_law_due", "_law_shown", "_law_turn", "_law_told", "_law_some", "_law_at", "_law_written", "_law_house", "_law_more", "_law_letter"]) (sc := d__law_right.scope) (by decide +kernel)) (fun _ _ _ _ _ => (pg_name (i := 14) S.nd rfl (Or.inl rfl))) (fun _ _ _ _ _ => pts_nil) (fun _ _ _ _ _ => (pe_cmpR (op_in_seqK (K := K) rfl) (pv 14) (pv 5) rfl))) pa_nil)) (pe_one (pe_cmpR op_eq (pe_callB (cr_repr HG (rm100 hr) T.sysM) rfl T.repr bo_repr (pa_cons (pv 3) pa_nil)) (pv 6) (nomark _))))))))))))))), ?_⟩
  rintro _ p F B Q q
  refine n_seq (n_asg (e_fS (j := 0) () rfl (ea_cons (e_var rfl) (ea_cons e_c ea_nil))) ?_)
  refine n_ex (i := 1) rfl fun rs R => ?_
  have n4 := R.n4
  have n1 := R.n1
  refine n_seq (n_par3 (ea_cons (EN.o (en_make (⟨rs, R⟩ : {rs : List Row // Rs rs}) (ea_cons (e_var rfl) ea_nil) fun _ => rfl)) (ea_cons (e_fS (j := 0) (⟨rs, R⟩ : {rs : List Row // Rs rs}) rfl (ea_cons (e_var rfl) (ea_cons (e_var rfl) ea_nil))) (ea_cons (e_f (⟨rs, R⟩ : {rs : List Row // Rs rs}) (ea_cons (e_var rfl) ea_nil)) ea_nil))) ?_)
  refine n_ex (i := 3) rfl fun ke d => ?_
  refine n_ex (i := 4) rfl fun cs hcs => ?_
  have sk := kd_small R d
  have kl : ke.length ≤ 4 := by rw [d.len]; exact n4
  refine n_seq (n_asgT (e_tup2 (e_f (⟨rs, R, ke, d, cs, hcs⟩ : Tz) (ea_cons (e_var rfl) (ea_cons (e_var rfl) (ea_cons (e_var rfl) ea_nil)))) (e_reprK (e_var rfl) kl sk)) (tg_2 ?_))
  refine n_ex (i := 5) rfl fun ds hds => ?_
  have hds' : DueA d.ka ds := hds
  have dw := due_wr R hds'
  have dl := car_len R dw
  let x : Pc := ⟨as5 rs, rs, ok5 rs, R⟩
  have sd := small_nats (n := 13) (low_of R dw) dl
  refine n_seq (n_for (α := Unit) (fun _ _ => True) (fun _ => [some (tR p), some (tRows false rs), some (x.t K), some (tD (kvO false 0 ke)), some (tD (cs.map hrK)), some (tL (ds.map tn)), some (tS (PyData.dict (kvD 0 ke)).shown), none, none, none, none, none, none, none, none]) (fun _ => [(p, mPot)]) (src_range1 (n := 2) (ea_cons e_c ea_nil) (by decide)) () trivial rfl rfl (fun B' eB i t _ ht _ => ?_) fun _ _ => ?_)
  · rw [range_at ht]
    refine tg_name (n_seq (n_asgN (m := mL (ds.map tn)) (en_if (φ := fun _ => True) (ET.imp (et_test (e_eq (e_var rfl) e_c rfl)) fun _ _ => trivial) (fun _ => EN.imp (en_f (⟨x, d.ka⟩ : Kq) (ea_cons (e_var rfl) (ea_cons (e_var rfl) ea_nil))) fun o G a => ?_) (fun _ => en_fK2X (β := Ka rs) (φ := fun k => k.ke = ke ∧ k.tup = true) (fun k => (⟨x, k⟩ : Kq)) (ea_cons (e_f (⟨rs, ke, n4, d⟩ : Kz) (ea_cons (e_var rfl) ea_nil)) (ea_cons (e_var rfl) ea_nil)) (fun _ => rfl) fun k hk o G a => ?_)) fun pt => ?_))
    · obtain ⟨ls, hls, a⟩ := a
      rw [due_uniq (k := d.ka) (k' := d.ka) rfl hls hds'] at a
      exact a
    · obtain ⟨ls, hls, a⟩ := a
      rw [due_uniq (k := k) (k' := d.ka) hk.1 hls hds'] at a
      exact a
    · refine n_seq (n_ifF (et_test (e_neF (e_reprM (j := 0) rfl (e_var rfl) (rd_L (g := fun n : Nat => PyData.int (n : Int)) fun _ => rd_n) sd (by decide) (by decide)) (e_repr (e_var rfl) (rd_L (g := fun n : Nat => PyData.int (n : Int)) fun _ => rd_n) sd (by decide) (by decide)) rfl rfl)) (n_next ?_))
      refine n_app (j := 0) (t := tn 0) rfl (e_var rfl) e_c (by rw [List.length_map]; omega) ?_
      exact n_sub [(p, mPot)] (List.sublist_cons_self ..) (n_fg [7, 8] (li () trivial rfl rfl))
  have cl := hcs.len R
  have crw : ∀ {ms : List Nat}, ms.Perm (cs.map (·.1)) → WrOk rs ms := fun {ms} h => ⟨fun l hl => by
    obtain ⟨c, hc, e⟩ := List.mem_map.mp (h.mem_iff.mp hl)
    exact ⟨c, (hcs.mem c).mp hc, e⟩, h.nodup_iff.mpr hcs.nd⟩
  have srt : ∀ {Γ : Gam}, Γ[4]? = some (some (tD (cs.map hrK))) → K89.E (tCB rSortedDI (tCons (tVar 4) tNil)) Γ [(p, mPot)] (tEx (fun ms : List Nat => ms.Perm (cs.map (·.1)) ∧ ms.Pairwise (· ≤ ·)) fun ms => tL (ms.map tn)) := fun h4 => EN.lx (en_bi1 (e_var h4) (bin_sortedD (ns := cs.map (·.1)) (by rw [List.map_map, List.map_map] <;> rfl) (by rw [List.length_map]; omega)))
  refine n_seq (n_asg (t := tW rs) (EN.lx (EN.imp (en_lcX (tsx := fun ms : List Nat => ms.map tn) (fun (ms : List Nat) i us => ∃ ns : List Nat, us = ns.map tn ∧ ns.Sublist (ms.take i)) (srcx_list (srt rfl)) (fun ms hm => by rw [List.length_map, hm.1.length_eq, List.length_map]; omega) (fun ms hm => ⟨[], rfl, List.nil_sublist _⟩) fun ms hm i t us ht hus hl => ?_) fun o G a => ?_)) ?_)
  · rw [List.getElem?_map] at ht
    cases em : ms[i]? with
    | none => rw [em] at ht; cases ht
    | some m =>
    rw [em] at ht
    have ht' := Option.some.inj ht
    subst ht'
    obtain ⟨ns, rfl, sub⟩ := hus
    have e1 : ms.take (i + 1) = ms.take i ++ [m] := by rw [List.take_succ, em] <;> rfl
    exact ⟨_, fun _ => True, tc_name (by decide), et_testx (e_eqX (f := fun d => d) (e_fS (j := 0) (⟨2, by decide, by decide⟩ : {n : Nat // 1 ≤ n ∧ n ≤ 1000}) rfl (ea_cons (e_var rfl) (ea_cons e_c ea_nil)))), fun _ => ⟨tn m, e_var rfl, ns ++ [m], by rw [List.map_append] <;> rfl, by rw [e1]; exact sub.append (List.Sublist.refl _)⟩, fun _ => ⟨ns, rfl, by rw [e1]; exact sub.trans (List.sublist_append_left ..)⟩⟩
  · obtain ⟨ms, hm, us, ⟨ns, rfl, sub⟩, a⟩ := a
    exact ⟨ns, (crw hm.1).sub (sub.trans (List.take_sublist ..)), a⟩
  refine n_ex (i := 9) rfl fun ss hss => ?_
  have sl := car_len R hss
  refine n_seq (n_asg (t := tEx (fun d => d < ds.length + 1) tn) (e_fS (j := 0) (⟨ds.length + 1, by omega, by omega⟩ : {n : Nat // 1 ≤ n ∧ n ≤ 1000}) rfl (ea_cons (e_var rfl) (ea_cons ((e_op0 (i := (ds.length : Int)) (j := 1) ((e_bi1 (e_var rfl) bi_len).to (by rw [List.length_map])) e_c).to (congrArg tI (show (ds.length : Int) + 1 = ((ds.length + 1 : Nat) : Int) by omega))) ea_nil))) ?_)
  refine n_ex (i := 10) rfl fun k hk => ?_
  have both : ∀ ks : List Nat, ks.Nodup → (∀ k ∈ ks, k ∈ ds ++ ss) → WrOk rs ks := fun ks nd hks => ⟨fun l hl => by
    rcases List.mem_append.mp (hks l hl) with m | m
    · exact dw.car l m
    · exact hss.car l m, nd⟩
  refine n_seq (n_for (α := Unit) (ts := List.replicate 4 (tW rs)) (fun _ _ => True) (fun _ => [some (tR p), some (tRows false rs), some (x.t K), some (tD (kvO false 0 ke)), some (tD (cs.map hrK)), some (tL (ds.map tn)), some (tS (PyData.dict (kvD 0 ke)).shown), none, none, some (tL (ss.map tn)), some (tn k), none, none, none, none]) (fun _ => [(p, mPot)]) (src_list (EN.l (en_lst (ts := [tW rs, tW rs, tW rs, tW rs]) (ea_cons (E.imp (e_var rfl) fun v G a => ⟨ss, hss, a⟩) (ea_cons (E.imp (e_var rfl) fun v G a => ⟨ds, dw, a⟩) (ea_cons (E.imp (EN.l (en_cat (EN.l (en_slL (e_var rfl) eo_none (eo_some (e_var rfl)))) (EN.l (en_slL (e_var rfl) (eo_some (e_op0 (i := (k : Int)) (j := 1) (e_var rfl) e_c)) eo_none)) ?_)) fun v G a => ?_) (ea_cons (E.imp (e_fS (j := 0) (⟨[tW rs, tW rs, tW rs], by show 1 ≤ 3; decide, by show 3 ≤ 1000; decide⟩ : {ts : List Ty // 1 ≤ ts.length ∧ ts.length ≤ 1000}) rfl (ea_cons (e_var rfl) (ea_cons (EN.l (en_lst (ea_cons (E.imp (srt rfl) fun v G a => ?_) (ea_cons (E.imp (EN.l (en_lst ea_nil (by decide))) fun v G a => ⟨[], ⟨fun l hl => (by cases hl), List.nodup_nil⟩, a⟩) (ea_cons (E.imp (EN.lx (en_bi1 (e_bi1 (t := tL ((ds ++ ss).map tn)) ((EN.l (en_cat (e_var rfl) (e_var rfl) ?_)).to (by rw [List.map_append])) (bi_setLD ?_ fun ks nd hks => ?_)) bin_sortedSetD)) fun v G a => ?_) ea_nil))) (by show 3 ≤ 100000; decide))) ea_nil))) fun v G a => ?_) ea_nil)))) (by show 4 ≤ 100000; decide)))) () trivial rfl rfl (fun B' eB i t _ ht _ => ?_) fun _ _ => ?_)
  · rw [cut_map, cut_map, List.length_map, List.length_map]
    have := (cut_sub (xs := ds) (i := k) (by omega)).length_le
    rw [List.length_append] at this
    omega
  · rw [cut_map, cut_map, ← List.map_append] at a
    exact ⟨_, dw.sub (cut_sub (by omega)), a⟩
  · obtain ⟨ms, hm, a⟩ := a
    exact ⟨ms, crw hm.1, a⟩
  · rw [List.length_map, List.length_map]
    omega
  · rw [List.length_append]
    omega
  · have := car_len R (both ks nd hks)
    omega
  · obtain ⟨ms, hm, a⟩ := a
    exact ⟨ms, both ms (hm.1.imp fun h => Nat.ne_of_lt h) fun k hk => (hm.2 k).mp hk, a⟩
  · obtain ⟨t, ht, a⟩ := a
    have e : t = tW rs := List.eq_of_mem_replicate (n := 3) ht
    rw [e] at a
    exact a
  · have e : t = tW rs := List.eq_of_mem_replicate (List.mem_of_getElem? ht)
    rw [e]
    refine tg_name (n_ex (i := 11) rfl fun ws hws => n_ifF (et_not (b := true) (et_test (e_f (⟨x, ke, d, ws, hws.car, hws.nd, ds, hds'⟩ : Wr) (ea_cons (e_var rfl) (ea_cons (e_var rfl) (ea_cons (e_var rfl) (ea_cons (e_var rfl) (ea_cons (e_var rfl) ea_nil)))))))) (n_next (n_fg [11] (li () trivial rfl rfl))))
  refine n_seq (n_asg (t := tEx (fun d => d < rs.length) tn) (e_fS (j := 0) (⟨rs.length, n1, by omega⟩ : {n : Nat // 1 ≤ n ∧ n ≤ 1000}) rfl (ea_cons (e_var rfl) (ea_cons ((e_bi1 (e_var rfl) bi_len).to (by rw [List.length_map])) ea_nil))) ?_)
  refine n_ex (i := 12) rfl fun h hh => ?_
  have okh := d.ok h hh
  have s13 := R.sz h
  have l14 : (ke.getD h []).length ≤ sz rs h + 1 := okh.len
  cases er : rs[h]? with
  | none =>
    have := List.getElem?_eq_none_iff.mp er
    omega
  | some r =>
  have hsz : sz rs h = r.length := by
    unfold sz
    rw [List.getD_eq_getElem?_getD, er] <;> rfl
  have le13 : ∀ s ∈ ke.getD h [], s ≤ 13 := fun s hs => Nat.le_trans (okh.le hs) s13
  refine n_seq (n_asg (t := tEx (MoreOk rs ke h) fun ms => tD (kvO false 0 (ke.set h ms))) (E.imp (e_fz (en_bi1 (t := tL ((kvO false 0 ke ++ [(kn h, tEx (MoreOk rs ke h) fun ms => tL (ms.map tn))]).map fun e => tT [tV (kV e.1), e.2])) ((EN.l (en_cat (us := [tT [tn h, tEx (MoreOk rs ke h) fun ms => tL (ms.map tn)]]) (e_itemsF (e_var rfl)) (EN.l (en_lst (ea_cons (e_tup2 (e_var rfl) (EN.lx (EN.imp (en_biX (φ := fun d => d < r.length + 1) (f := fun d => tSetD w (ke.getD h [] ++ [d])) (e_biX (f := fun d => tL ((ke.getD h [] ++ [d]).map tn)) (E.imp (EN.l (en_cat (e_dget (k := kn h) (e_var rfl) (e_var rfl) (kvO_at d hh)) (EN.l (en_lst (ea_cons (e_fS (j := 0) (⟨r.length + 1, by omega, by omega⟩ : {n : Nat // 1 ≤ n ∧ n ≤ 1000}) rfl (ea_cons (e_var rfl) (ea_cons ((e_op0 (i := (r.length : Int)) (j := 1) ((e_bi1 (e_ixL (e_var rfl) (e_var rfl) (atI_n (by rw [List.getElem?_map, er] <;> rfl))) bi_len).to (by rw [List.length_map])) e_c).to (congrArg tI (show (r.length : Int) + 1 = ((r.length + 1 : Nat) : Int) by omega))) ea_nil))) ea_nil) (by show 1 ≤ 100000; decide))) ?_)) fun v G a => ?_) fun dd hdd => bi_setLD ?_ fun ks nd hks => ?_) fun dd hdd => bin_sortedSetD) fun o G a => ?_))) ea_nil) (by show 1 ≤ 100000; decide))) ?_)).to (by rw [List.map_append] <;> rfl)) bin_dict)) fun v G a => ?_) ?_)
  · rw [List.length_map]
    show _ + 1 ≤ 100000
    omega
  · obtain ⟨b, vs, rfl, eb, av⟩ := a
    obtain ⟨dd, h1, h2⟩ := at_lastX av
    refine ⟨dd, h1, b, vs, rfl, eb, ?_⟩
    rw [List.map_append]
    exact h2
  · rw [List.length_append]
    show _ + 1 ≤ 1000
    omega
  · have := nodup_len 14 nd fun y hy => by
      rcases List.mem_append.mp (hks y hy) with m | m
      · have := le13 y m
        omega
      · have e := List.mem_singleton.mp m
        omega
    omega
  · obtain ⟨dd, hdd, ms, ⟨h1, h2⟩, a⟩ := a
    refine ⟨ms, ⟨keok_of (ns := ke.getD h [] ++ [dd]) h1 (fun y => ?_) fun y hy => ?_, fun s hs => (h2 s).mpr (List.mem_append_left _ hs)⟩, a⟩
    · rw [h2]
      constructor
      · exact fun m => List.mem_append_right _ m
      · intro m
        rcases List.mem_append.mp m with m | m
        · rcases List.mem_cons.mp m with e | m
          · rw [e]
            exact List.mem_append_left _ (List.mem_of_getElem? okh.hd)
          · rw [List.mem_singleton.mp m]
            exact List.mem_append_left _ (List.mem_of_getLast? okh.lst)
        · exact m
    · rcases List.mem_append.mp hy with m | m
      · exact okh.le m
      · have e := List.mem_singleton.mp m
        omega
  · rw [List.length_map, kvO_len]
    show _ + 1 ≤ 100000
    omega
  · rw [merge_kvO] at a
    obtain ⟨b, o, vs, rfl, eb, av⟩ := a
    obtain ⟨ms, hms, av⟩ := dPut_ex av
    refine ⟨ms, hms, b, o, vs, rfl, eb, ?_⟩
    have e := kvO_put (ms := ms) (ks := ke) (o := 0) (h := h) (by rw [d.len]; exact hh)
    rw [Nat.zero_add] at e
    rw [← e]
    exact av
  refine n_ex (i := 13) rfl fun ms hms => ?_
  have d2 := kd_set d hh hms.ok
  refine n_retP (e_andV (b := true) (c := true) (E.imp (e_allX (φ := DueA d2.ka) (xs := fun ls => ls) (f := fun l => decide (l ∈ ds)) (en_mapX (f := tn) (srcx_list (EN.lx (en_f (⟨x, d2.ka⟩ : Kq) (ea_cons (e_var rfl) (ea_cons (e_var rfl) ea_nil))))) (fun ls hls => by have := hls.len; omega) fun ls hls l hl => ⟨_, tc_name (by decide), e_inN (tup := false) (neg := false) (e_var rfl) (e_var rfl)⟩)) fun v G a => ?_) fun _ => e_eqT (e_reprK (e_var rfl) kl sk) (e_var rfl) rfl rfl) q
  obtain ⟨ls, hls, a⟩ := a
  have e : (ls.all fun l => decide (l ∈ ds)) = true := List.all_eq_true.mpr fun l hl => decide_eq_true ((hds'.mem l).mpr (due_more (k := d.ka) (k' := d2.ka) (fun g hg s hs => by
    show s ∈ (ke.set h ms).getD g []
    rw [List.getD_eq_getElem?_getD, List.getElem?_set]
    have hs' : s ∈ ke.getD g [] := hs
    by_cases z : h = g
    · subst z
      rw [if_pos rfl, if_pos (by rw [d.len]; exact hh)]
      exact hms.sub s hs'
    · rw [if_neg z]
      rw [List.getD_eq_getElem?_getD] at hs'
      exact hs') ((hls.mem l).mp hl)))
  have a' : v = .bl (ls.all fun l => decide (l ∈ ds)) := a
  rw [a', e]
  rfl
theorem f_law (T : En K mg) : CalQ P w K mg "law" 12 ["_law_script"] (spT (fun (ns : List Int) => [tScr K (ns.map V.int)]) (fun _ => tB true)) := by
  have S : FnScope ["_law_script"] ["_law_script"] d_law.scope := ⟨rfl, rfl, rfl, by decide +kernel, rfl, by decide +kernel, by decide +kernel⟩
  refine CalQ.mk' (n := 0) T 53 47 rfl rfl rfl rfl rfl S rfl (fun _ => rfl) (fun _ _ _ _ _ _ us hl => match us, hl with | [_], _ => rfl) fun base cdv A outer s H EX HG hr => ⟨_, (pss_one (ps_ret (pe_fQ (f__law_right T) HG hr rfl (pa_cons (pe_f (f__law_pot T) (hr.mono (by decide)) rfl (pa_cons (pv 0) (pa_cons pe_int pa_nil))) pa_nil)))), ?_⟩
  rintro ns F B Q q
  exact n_ret (e_fMN () (en_f ns (ea_cons (e_var rfl) (ea_cons e_c ea_nil))) fun _ => rfl) q
end
end K89
set_option Elab.async false
set_option linter.all false
set_option maxRecDepth 100000
set_option maxHeartbeats 0
/-! The law's theorem. -/
namespace K89
open PySem PySem.Spec PyProof.Rows L2
theorem lawEnd {P : Program} {w : World} {h : Heap} {mg : Str → Option Value} {fa : Addr} (Y : ∃ K : PySem.W.Frag, K.In h ∧ SaysP K) (G : h.Ns mainGlobals mg) (hmg : mg ("law" : Str) = some (.ref fa)) :
    ∃ (K : PySem.W.Frag) (fd : FuncData) (sp : Sp), K.In h ∧ (∀ (s : Shared) (u : Value), BindsTo s fd ⟨[u], []⟩ [("_law_script", u)]) ∧
      (∀ (H : Hp) (a : Addr) (ns : List Int), ns.length ≤ 63 → SqL K H a (ns.map V.int) → sp [.ref a] H (fun v _ => v = .bl true) E0) ∧ ∀ bs : Heap, FnG P w K mg bs 12 fa fd ["_law_script"] sp := by
  obtain ⟨K, KX, c⟩ := Y
  have T : En K mg := ⟨⟨h, KX, G⟩, c⟩
  obtain ⟨f, fd, h1, h2, ⟨h3, h4⟩, h5⟩ := (f_law (P := P) (w := w) T).ex
  rw [hmg] at h1
  cases h1
  exact ⟨K, fd, _, KX, fun s u => h4 s [u] rfl, fun H a ns _ hS => ⟨ns, H, Er.refl H, ⟨⟨a, rfl, hS⟩, trivial⟩, fun v H2 G2 _ _ _ z => z⟩, h5⟩
end K89
open PySem PySem.W PySem.Calls PyProof.Rows
theorem PySem.Challenge.cw_oneshelf_k89_whole_letters_to_write_down_holds : PySem.Challenge.rw_oneshelf_k89_whole_letters_to_write_down.Holds := by
  w_on; o_law
  refine HandSHeadRun.head_any (r := OpenLaw.row PySem.Challenge.rw_oneshelf_k89_whole_letters_to_write_down) (q := view (OpenLaw.row PySem.Challenge.rw_oneshelf_k89_whole_letters_to_write_down).prog [77]) (H := K89.hk) (ob := K89.ob) (M := 6000) (loose := K89.names)
    (d := HandSHeadRun.topDef (OpenLaw.row PySem.Challenge.rw_oneshelf_k89_whole_letters_to_write_down).prog 77) (kwd := []) K89.ob_eq
    (by kernel_rfl) (fun s => by kernel_rfl) K89.run (by kernel_rfl) (by kernel_rfl) (by kernel_rfl) (by rfl) (by first | assumption | decide +kernel) (by decide +kernel) ⟨rfl, rfl, rfl, rfl, rfl, by decide +kernel⟩ ?hw ?hc
  case hw => w_witness2
  case hc =>
    refine K89.walk_Q (l := PySem.Challenge.rw_oneshelf_k89_whole_letters_to_write_down) (n := 63) (k := 12) (x := "_law_script") rfl (by decide) (by kernel_rfl) ⟨rfl, by decide, by decide⟩ ?F
    intro w mg fa h Y G hmg0
    have hmg : mg ("law" : PySem.Str) = some (.ref fa) := by
      have e : (HandSHeadRun.topDef (OpenLaw.row PySem.Challenge.rw_oneshelf_k89_whole_letters_to_write_down).prog 77).name = ("law" : PySem.Str) := by kernel_rfl
      rw [← e]
      exact hmg0
    exact K89.lawEnd Y G hmg
