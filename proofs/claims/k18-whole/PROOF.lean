import PyProof.Rows.All
import Wide.All
import OpenK.AllK
import Wide.FinOn
import KE.KStateDown
import Lean
import HandS.ForMost
import HandS.ForExc
import HandS.Property
import HandS.Slots
import HandS.SlotsOwn
import HandS.Defaults
import HandS.IsInst
import HandS.Head0
import HandS.Head1
import HandS.Head2
import HandS.HeadEnd
import HandS.HeadHook1
import HandS.HeadHook2
import KE.KOpsOwn
import HandS.MakeKwOnly
import HandS.Star
import HandS.Wide
import HandS.More
import PyProof.MinMaxWalk
import PyProof.WalkInts
import PyProof.SeqI3
import HandS.TupLe
import PyProof.Rows.RuleB_bool
import KE.KMinKey
import HandS.SortKw
import HandS.Walk
import PyProof.NeKinds
import KE.GoesEnum
import HandS.Iter
import PyProof.LongRange
import PyProof.StrLawsAffix
import HandS.Codes
import KE.IntTextLaws
import KE.KUnpackStar
import HandS.StrMore
import HandS.Exc
import HandS.TryOnly
import HandS.Set
import HandS.Strs
import PyProof.Rows.SetFrom
import HandS.Head3
import PyProof.ReprRoads
import HandS.Style
import HandS.ListItems
import HandS.Conv
import PyProof.ReprLen
import PySem.Challenge.RW_turnedtunes_k18_whole_hangs_of_rows_of_p

-- HD
set_option Elab.async false
set_option linter.all false
set_option maxRecDepth 100000
set_option maxHeartbeats 0
namespace TT
open PySem PySem.Spec PyProof.Rows L2
abbrev Fg : Type := PySem.W.Frag
def top (i : Nat) : Stmt := PySem.Challenge.pw_turnedtunes_k18_whole_hangs_of_rows_of_p.main.body.getD i (.Pass ⟨0, 0, 0, 0⟩)
/-! the places of functions, by names -/
def gA (x : Str) (K : Fg) : Addr := He.ga K x
def mA (c m : Str) (K : Fg) : Addr := He.ma K (He.ga K c) m
def pO (c m : Str) (K : Fg) : Addr := He.ma K (He.ga K c) m
def pA (c m : Str) (K : Fg) : Addr := match PySem.W.recIn K (pO c m K) "property" with
  | some (.ref g :: _) => g
  | _ => 0
/-- one def -/
structure Df where
  at_ : Fg → Addr
  name : Str
  qual : Str
  params : Arguments
  body : List Stmt
  scope : Scope
  dfl : List He.Dv := []
  kwd : List (Str × He.Dv) := []
def seen (K : Fg) (a : Addr) : He.FnW :=
  match K.lookup a with
  | none => none
  | some ob =>
    match ob.data with
    | .func z => some (z.name, z.qualname, z.params, z.body, z.scope, z.globals, z.closure, z.builtins)
    | _ => none
def Df.due (d : Df) : He.FnW := some (d.name, d.qual, d.params, .stmts d.body, d.scope, mainGlobals, [], builtinsNs)
def Df.dv (K : Fg) (d : Df) : List V := d.dfl.map (He.Dv.v K)
def Df.kw (K : Fg) (d : Df) : List (Str × V) := d.kwd.map fun q => (q.1, q.2.v K)
def Df.fine (K : Fg) (d : Df) : Bool :=
  PySem.W.keepIn K (.ref (d.at_ K)) &&
  match K.lookup (d.at_ K) with
  | none => false
  | some ob =>
    match ob.data with
    | .func z => PySem.W.codeIn K z.code d.qual && (He.dflB K z.defaults (d.dv K) && He.kwdB K z.kwdefaults (d.kw K))
    | _ => false
theorem Df.made {K : Fg} {d : Df} (e : seen K (d.at_ K) = d.due) (c : d.fine K = true) :
    ∃ fd, FunD K d.name d.qual d.params d.body d.scope (d.dv K) (d.kw K) (d.at_ K) fd := by
  obtain ⟨kp, c2⟩ := He.ba c
  unfold seen at e
  rcases hq : K.lookup (d.at_ K) with _ | ob
  · rw [hq] at c2
    simp at c2
  · rw [hq] at c2 e
    obtain ⟨oc, od, dt, osl⟩ := ob
    cases dt
    case func z =>
      obtain ⟨a1, a2, a3, a4, a5, a6, a7, a8, a9, a10, a11, a12, a13, a14, a15⟩ := z
      have e2 : (some (a1, a2, a3, a4, a5, a6, a7, a15) : He.FnW) = some (d.name, d.qual, d.params, .stmts d.body, d.scope, mainGlobals, [], builtinsNs) := e
      simp only [Option.some.injEq, Prod.mk.injEq] at e2
      obtain ⟨r1, r2, r3, r4, r5, r6, r7, r8⟩ := e2
      subst r1 r2 r3 r4 r5 r6 r7 r8
      have c3 : (PySem.W.codeIn K a13 d.qual && (He.dflB K a8 (d.dv K) && He.kwdB K a9 (d.kw K))) = true := c2
      obtain ⟨k1, k2⟩ := He.ba c3
      obtain ⟨k3, k4⟩ := He.ba k2
      exact ⟨_, ⟨oc, od, a8, a9, a10, a11, a12, a13, a14, osl, rfl, hq, k1, He.dflB_ok k3, He.kwdB_ok k4⟩, kp⟩
    all_goals simp at c2
/-! facts about classes, as tests -/
def eO (a b : Option (Option Value)) : Bool := decide (a = b)
def tProp (c m : Str) (K : Fg) : Bool :=
  eO (PySem.W.findIn K (.ref (gA c K)) m) (some (some (.ref (pO c m K)))) &&
  (eO (PySem.W.specialIn K (.ref (pO c m K)) "__get__") (some (some (.builtin "property.__get__"))) &&
  (decide (PySem.W.takesIn K (.ref (pO c m K)) = some true) &&
  match PySem.W.recIn K (pO c m K) "property" with
  | some (.ref _ :: _) => true
  | _ => false))
def tSlC (c : Str) (K : Fg) : Bool :=
  PySem.W.plainGet K (gA c K) Str.empty && (PySem.W.isClsIn K (gA c K) && (PySem.W.plainOver K (gA c K) &&
  eO (PySem.W.findIn K (.ref (gA c K)) "__setattr__") (some (some (.builtin "object.__setattr__")))))
def tSlot (c m : Str) (i : Nat) (K : Fg) : Bool :=
  eO (PySem.W.findIn K (.ref (gA c K)) m) (some (some (.ref (pO c m K)))) &&
  (eO (PySem.W.specialIn K (.ref (pO c m K)) "__get__") (some (some (.builtin "member_descriptor.__get__"))) &&
  (decide (PySem.W.takesIn K (.ref (pO c m K)) = some true) &&
  (decide (PySem.W.typeIn K (.ref (pO c m K)) = some (.type "member_descriptor")) &&
  decide (PySem.W.slotIn K (pO c m K) (gA c K) = some i))))
def tIns (c : Str) (K : Fg) : Bool :=
  eO (PySem.W.findIn K (.ref (gA c K)) "__class__") (some (some (.builtin "object.__class__"))) &&
  (eO (PySem.W.specialIn K (.builtin "object.__class__") "__get__") (some (some (.builtin "getset_descriptor.__get__"))) &&
  (decide (PySem.W.takesIn K (.builtin "object.__class__") = some true) &&
  (decide (PySem.W.mroIn K (gA c K) (.type "object") = some true) &&
  decide (PySem.W.kitOne K (.ref (gA c K)) (.ref (gA c K)) = some true))))
def tOwn (c m : Str) (K : Fg) : Bool :=
  PySem.W.selfFirst K (gA c K) && (eO (PySem.W.findIn K (.ref (gA c K)) m) (some (some (.ref (mA c m K)))) && PySem.W.isFn K (.ref (mA c m K)))
def tMulI (c : Str) (K : Fg) : Bool :=
  eO (PySem.W.findIn K (.ref (gA c K)) (dunderR "mul")) (some none) &&
  ((PySem.W.findIn K (.type "int") (PySem.dunder "mul")).isSome && ((PySem.W.findIn K (.type "int") (dunderR "mul")).isSome &&
  decide (PySem.W.subIn K (.type "int") (.ref (gA c K)) = some false)))

abbrev s_is_integer : Stmt := (top 25)
def d_is_integer : Df := ⟨gA "is_integer", "is_integer", "is_integer", defArgs s_is_integer, defBody s_is_integer, defScope s_is_integer, [.non, .non], []⟩
abbrev s_number_told : Stmt := (top 26)
def d_number_told : Df := ⟨gA "number_told", "number_told", "number_told", defArgs s_number_told, defBody s_number_told, defScope s_number_told, [], []⟩
abbrev s_numbers_told : Stmt := (top 27)
def d_numbers_told : Df := ⟨gA "numbers_told", "numbers_told", "numbers_told", defArgs s_numbers_told, defBody s_numbers_told, defScope s_numbers_told, [], []⟩
abbrev s_line_parts : Stmt := (top 28)
def d_line_parts : Df := ⟨gA "line_parts", "line_parts", "line_parts", defArgs s_line_parts, defBody s_line_parts, defScope s_line_parts, [], []⟩
abbrev s_Tie_init : Stmt := (inClass (top 35) 0)
def d_Tie_init : Df := ⟨mA "Tie" "__init__", "__init__", "Tie.__init__", defArgs s_Tie_init, defBody s_Tie_init, defScope s_Tie_init, [.int 0], [("down", .bl false), ("backward", .bl false)]⟩
abbrev s_Tie_first : Stmt := (inClass (top 35) 1)
def d_Tie_first : Df := ⟨pA "Tie" "first", "first", "Tie.first", defArgs s_Tie_first, defBody s_Tie_first, defScope s_Tie_first, [], []⟩
abbrev s_Tie_second : Stmt := (inClass (top 35) 2)
def d_Tie_second : Df := ⟨pA "Tie" "second", "second", "Tie.second", defArgs s_Tie_second, defBody s_Tie_second, defScope s_Tie_second, [], []⟩
abbrev s_Tie_length : Stmt := (inClass (top 35) 3)
def d_Tie_length : Df := ⟨pA "Tie" "length", "length", "Tie.length", defArgs s_Tie_length, defBody s_Tie_length, defScope s_Tie_length, [], []⟩
abbrev s_Tie_amount : Stmt := (inClass (top 35) 4)
def d_Tie_amount : Df := ⟨pA "Tie" "amount", "amount", "Tie.amount", defArgs s_Tie_amount, defBody s_Tie_amount, defScope s_Tie_amount, [], []⟩
abbrev s_Tie_down : Stmt := (inClass (top 35) 5)
def d_Tie_down : Df := ⟨pA "Tie" "down", "down", "Tie.down", defArgs s_Tie_down, defBody s_Tie_down, defScope s_Tie_down, [], []⟩
abbrev s_Tie_backward : Stmt := (inClass (top 35) 6)
def d_Tie_backward : Df := ⟨pA "Tie" "backward", "backward", "Tie.backward", defArgs s_Tie_backward, defBody s_Tie_backward, defScope s_Tie_backward, [], []⟩
abbrev s_Tie_shift : Stmt := (inClass (top 35) 9)
def d_Tie_shift : Df := ⟨pA "Tie" "shift", "shift", "Tie.shift", defArgs s_Tie_shift, defBody s_Tie_shift, defScope s_Tie_shift, [], []⟩
abbrev s_Tie_turn : Stmt := (inClass (top 35) 10)
def d_Tie_turn : Df := ⟨pA "Tie" "turn", "turn", "Tie.turn", defArgs s_Tie_turn, defBody s_Tie_turn, defScope s_Tie_turn, [], []⟩
abbrev s_Tie_partner : Stmt := (inClass (top 35) 11)
def d_Tie_partner : Df := ⟨mA "Tie" "partner", "partner", "Tie.partner", defArgs s_Tie_partner, defBody s_Tie_partner, defScope s_Tie_partner, [], []⟩
abbrev s_Tie_led : Stmt := (inClass (top 35) 13)
def d_Tie_led : Df := ⟨mA "Tie" "led", "led", "Tie.led", defArgs s_Tie_led, defBody s_Tie_led, defScope s_Tie_led, [], []⟩
abbrev s_Tie_between : Stmt := (inClass (top 35) 14)
def d_Tie_between : Df := ⟨mA "Tie" "between", "between", "Tie.between", defArgs s_Tie_between, defBody s_Tie_between, defScope s_Tie_between, [], []⟩
abbrev s_Tie_part : Stmt := (inClass (top 35) 15)
def d_Tie_part : Df := ⟨mA "Tie" "part", "part", "Tie.part", defArgs s_Tie_part, defBody s_Tie_part, defScope s_Tie_part, [], []⟩
abbrev s_Tie_invert : Stmt := (inClass (top 35) 16)
def d_Tie_invert : Df := ⟨mA "Tie" "__invert__", "__invert__", "Tie.__invert__", defArgs s_Tie_invert, defBody s_Tie_invert, defScope s_Tie_invert, [], []⟩
abbrev s_Tie_places_into : Stmt := (inClass (top 35) 17)
def d_Tie_places_into : Df := ⟨mA "Tie" "places_into", "places_into", "Tie.places_into", defArgs s_Tie_places_into, defBody s_Tie_places_into, defScope s_Tie_places_into, [], []⟩
abbrev s_Tie_rshift : Stmt := (inClass (top 35) 18)
def d_Tie_rshift : Df := ⟨mA "Tie" "__rshift__", "__rshift__", "Tie.__rshift__", defArgs s_Tie_rshift, defBody s_Tie_rshift, defScope s_Tie_rshift, [], []⟩
abbrev s_Tie_led_often : Stmt := (inClass (top 35) 19)
def d_Tie_led_often : Df := ⟨mA "Tie" "led_often", "led_often", "Tie.led_often", defArgs s_Tie_led_often, defBody s_Tie_led_often, defScope s_Tie_led_often, [], []⟩
abbrev s_Tie_mul : Stmt := (inClass (top 35) 20)
def d_Tie_mul : Df := ⟨mA "Tie" "__mul__", "__mul__", "Tie.__mul__", defArgs s_Tie_mul, defBody s_Tie_mul, defScope s_Tie_mul, [], []⟩
abbrev s_tie_told : Stmt := (top 36)
def d_tie_told : Df := ⟨gA "tie_told", "tie_told", "tie_told", defArgs s_tie_told, defBody s_tie_told, defScope s_tie_told, [], []⟩
abbrev s_is_tie_within : Stmt := (top 37)
def d_is_tie_within : Df := ⟨gA "is_tie_within", "is_tie_within", "is_tie_within", defArgs s_is_tie_within, defBody s_is_tie_within, defScope s_is_tie_within, [], []⟩
abbrev s_Link_init : Stmt := (inClass (top 45) 1)
def d_Link_init : Df := ⟨mA "Link" "__init__", "__init__", "Link.__init__", defArgs s_Link_init, defBody s_Link_init, defScope s_Link_init, [.adr (He.dflAt ("Link", some "__init__") 0)], []⟩
abbrev s_Link_behind : Stmt := (inClass (top 45) 2)
def d_Link_behind : Df := ⟨pA "Link" "behind", "behind", "Link.behind", defArgs s_Link_behind, defBody s_Link_behind, defScope s_Link_behind, [], []⟩
abbrev s_back : Stmt := (top 46)
def d_back : Df := ⟨gA "back", "back", "back", defArgs s_back, defBody s_back, defScope s_back, [], []⟩
abbrev s_joined : Stmt := (top 47)
def d_joined : Df := ⟨gA "joined", "joined", "joined", defArgs s_joined, defBody s_joined, defScope s_joined, [], []⟩
abbrev s_times : Stmt := (top 48)
def d_times : Df := ⟨gA "times", "times", "times", defArgs s_times, defBody s_times, defScope s_times, [], []⟩
abbrev s_part : Stmt := (top 49)
def d_part : Df := ⟨gA "part", "part", "part", defArgs s_part, defBody s_part, defScope s_part, [], []⟩
abbrev s_is_one_part : Stmt := (top 50)
def d_is_one_part : Df := ⟨gA "is_one_part", "is_one_part", "is_one_part", defArgs s_is_one_part, defBody s_is_one_part, defScope s_is_one_part, [], []⟩
abbrev s_cannot_be : Stmt := (top 51)
def d_cannot_be : Df := ⟨gA "cannot_be", "cannot_be", "cannot_be", defArgs s_cannot_be, defBody s_cannot_be, defScope s_cannot_be, [], []⟩
abbrev s_is_pin : Stmt := (top 52)
def d_is_pin : Df := ⟨gA "is_pin", "is_pin", "is_pin", defArgs s_is_pin, defBody s_is_pin, defScope s_is_pin, [], []⟩
abbrev s_evened : Stmt := (top 53)
def d_evened : Df := ⟨gA "evened", "evened", "evened", defArgs s_evened, defBody s_evened, defScope s_evened, [], []⟩
abbrev s_rounds : Stmt := (top 54)
def d_rounds : Df := ⟨gA "rounds", "rounds", "rounds", defArgs s_rounds, defBody s_rounds, defScope s_rounds, [], []⟩
abbrev s_way_to : Stmt := (top 55)
def d_way_to : Df := ⟨gA "way_to", "way_to", "way_to", defArgs s_way_to, defBody s_way_to, defScope s_way_to, [], []⟩
abbrev s_read_by_pin : Stmt := (top 56)
def d_read_by_pin : Df := ⟨gA "read_by_pin", "read_by_pin", "read_by_pin", defArgs s_read_by_pin, defBody s_read_by_pin, defScope s_read_by_pin, [], []⟩
abbrev s_read_by_link : Stmt := (top 57)
def d_read_by_link : Df := ⟨gA "read_by_link", "read_by_link", "read_by_link", defArgs s_read_by_link, defBody s_read_by_link, defScope s_read_by_link, [], []⟩
abbrev s_read_through : Stmt := (top 58)
def d_read_through : Df := ⟨gA "read_through", "read_through", "read_through", defArgs s_read_through, defBody s_read_through, defScope s_read_through, [], []⟩
abbrev s_shortened : Stmt := (top 59)
def d_shortened : Df := ⟨gA "shortened", "shortened", "shortened", defArgs s_shortened, defBody s_shortened, defScope s_shortened, [], []⟩
abbrev s_all_evened : Stmt := (top 60)
def d_all_evened : Df := ⟨gA "all_evened", "all_evened", "all_evened", defArgs s_all_evened, defBody s_all_evened, defScope s_all_evened, [], []⟩
abbrev s_end_of : Stmt := (top 61)
def d_end_of : Df := ⟨gA "end_of", "end_of", "end_of", defArgs s_end_of, defBody s_end_of, defScope s_end_of, [], []⟩
abbrev s_cut_off : Stmt := (top 62)
def d_cut_off : Df := ⟨gA "cut_off", "cut_off", "cut_off", defArgs s_cut_off, defBody s_cut_off, defScope s_cut_off, [], []⟩
abbrev s_rows_by : Stmt := (top 63)
def d_rows_by : Df := ⟨gA "rows_by", "rows_by", "rows_by", defArgs s_rows_by, defBody s_rows_by, defScope s_rows_by, [], []⟩
abbrev s_Ladder_init : Stmt := (inClass (top 64) 0)
def d_Ladder_init : Df := ⟨mA "Ladder" "__init__", "__init__", "Ladder.__init__", defArgs s_Ladder_init, defBody s_Ladder_init, defScope s_Ladder_init, [], []⟩
abbrev s_Ladder_walk : Stmt := (inClass (top 64) 2)
def d_Ladder_walk : Df := ⟨mA "Ladder" "walk", "walk", "Ladder.walk", defArgs s_Ladder_walk, defBody s_Ladder_walk, defScope s_Ladder_walk, [], []⟩
abbrev s_Ladder_reading : Stmt := (inClass (top 64) 3)
def d_Ladder_reading : Df := ⟨mA "Ladder" "reading", "reading", "Ladder.reading", defArgs s_Ladder_reading, defBody s_Ladder_reading, defScope s_Ladder_reading, [], []⟩
abbrev s_links_of : Stmt := (top 65)
def d_links_of : Df := ⟨gA "links_of", "links_of", "links_of", defArgs s_links_of, defBody s_links_of, defScope s_links_of, [], []⟩
abbrev s_ladder_of : Stmt := (top 66)
def d_ladder_of : Df := ⟨gA "ladder_of", "ladder_of", "ladder_of", defArgs s_ladder_of, defBody s_ladder_of, defScope s_ladder_of, [], []⟩
abbrev s_check_place : Stmt := (top 67)
def d_check_place : Df := ⟨gA "check_place", "check_place", "check_place", defArgs s_check_place, defBody s_check_place, defScope s_check_place, [], []⟩
abbrev s_kept_ladder : Stmt := (top 68)
def d_kept_ladder : Df := ⟨gA "kept_ladder", "kept_ladder", "kept_ladder", defArgs s_kept_ladder, defBody s_kept_ladder, defScope s_kept_ladder, [], []⟩
abbrev s_hangs : Stmt := (top 71)
def d_hangs : Df := ⟨gA "hangs", "hangs", "hangs", defArgs s_hangs, defBody s_hangs, defScope s_hangs, [], []⟩
abbrev s_heard : Stmt := (top 72)
def d_heard : Df := ⟨gA "heard", "heard", "heard", defArgs s_heard, defBody s_heard, defScope s_heard, [], []⟩
abbrev s_size_told : Stmt := (top 79)
def d_size_told : Df := ⟨gA "size_told", "size_told", "size_told", defArgs s_size_told, defBody s_size_told, defScope s_size_told, [], []⟩
abbrev s_tie_in : Stmt := (top 80)
def d_tie_in : Df := ⟨gA "tie_in", "tie_in", "tie_in", defArgs s_tie_in, defBody s_tie_in, defScope s_tie_in, [], []⟩
abbrev s_note_in : Stmt := (top 81)
def d_note_in : Df := ⟨gA "note_in", "note_in", "note_in", defArgs s_note_in, defBody s_note_in, defScope s_note_in, [], []⟩
abbrev s_read_book : Stmt := (top 82)
def d_read_book : Df := ⟨gA "read_book", "read_book", "read_book", defArgs s_read_book, defBody s_read_book, defScope s_read_book, [], []⟩
abbrev s_Book_init : Stmt := (inClass (top 87) 0)
def d_Book_init : Df := ⟨mA "Book" "__init__", "__init__", "Book.__init__", defArgs s_Book_init, defBody s_Book_init, defScope s_Book_init, [], []⟩
abbrev s_Book_size : Stmt := (inClass (top 87) 2)
def d_Book_size : Df := ⟨pA "Book" "size", "size", "Book.size", defArgs s_Book_size, defBody s_Book_size, defScope s_Book_size, [], []⟩
abbrev s_Book_ties : Stmt := (inClass (top 87) 3)
def d_Book_ties : Df := ⟨pA "Book" "ties", "ties", "Book.ties", defArgs s_Book_ties, defBody s_Book_ties, defScope s_Book_ties, [], []⟩
abbrev s_Book_notes : Stmt := (inClass (top 87) 4)
def d_Book_notes : Df := ⟨pA "Book" "notes", "notes", "Book.notes", defArgs s_Book_notes, defBody s_Book_notes, defScope s_Book_notes, [], []⟩
abbrev s__law_pot : Stmt := (top 89)
def d__law_pot : Df := ⟨gA "_law_pot", "_law_pot", "_law_pot", defArgs s__law_pot, defBody s__law_pot, defScope s__law_pot, [], []⟩
abbrev s__law_take : Stmt := (top 90)
def d__law_take : Df := ⟨gA "_law_take", "_law_take", "_law_take", defArgs s__law_take, defBody s__law_take, defScope s__law_take, [], []⟩
abbrev s__law_far : Stmt := (top 91)
def d__law_far : Df := ⟨gA "_law_far", "_law_far", "_law_far", defArgs s__law_far, defBody s__law_far, defScope s__law_far, [], []⟩
abbrev s__law_of : Stmt := (top 92)
def d__law_of : Df := ⟨gA "_law_of", "_law_of", "_law_of", defArgs s__law_of, defBody s__law_of, defScope s__law_of, [], []⟩
abbrev s__law_cells : Stmt := (top 93)
def d__law_cells : Df := ⟨gA "_law_cells", "_law_cells", "_law_cells", defArgs s__law_cells, defBody s__law_cells, defScope s__law_cells, [], []⟩
abbrev s__law_amount : Stmt := (top 94)
def d__law_amount : Df := ⟨gA "_law_amount", "_law_amount", "_law_amount", defArgs s__law_amount, defBody s__law_amount, defScope s__law_amount, [], []⟩
abbrev s__law_tie_text : Stmt := (top 95)
def d__law_tie_text : Df := ⟨gA "_law_tie_text", "_law_tie_text", "_law_tie_text", defArgs s__law_tie_text, defBody s__law_tie_text, defScope s__law_tie_text, [], []⟩
abbrev s__law_book_text : Stmt := (top 96)
def d__law_book_text : Df := ⟨gA "_law_book_text", "_law_book_text", "_law_book_text", defArgs s__law_book_text, defBody s__law_book_text, defScope s__law_book_text, [], []⟩
abbrev s__law_partner : Stmt := (top 97)
def d__law_partner : Df := ⟨gA "_law_partner", "_law_partner", "_law_partner", defArgs s__law_partner, defBody s__law_partner, defScope s__law_partner, [], []⟩
abbrev s__law_pairs : Stmt := (top 98)
def d__law_pairs : Df := ⟨gA "_law_pairs", "_law_pairs", "_law_pairs", defArgs s__law_pairs, defBody s__law_pairs, defScope s__law_pairs, [], []⟩
abbrev s__law_webs : Stmt := (top 99)
def d__law_webs : Df := ⟨gA "_law_webs", "_law_webs", "_law_webs", defArgs s__law_webs, defBody s__law_webs, defScope s__law_webs, [], []⟩
abbrev s__law_web_from : Stmt := (top 100)
def d__law_web_from : Df := ⟨gA "_law_web_from", "_law_web_from", "_law_web_from", defArgs s__law_web_from, defBody s__law_web_from, defScope s__law_web_from, [], []⟩
abbrev s__law_settled : Stmt := (top 101)
def d__law_settled : Df := ⟨gA "_law_settled", "_law_settled", "_law_settled", defArgs s__law_settled, defBody s__law_settled, defScope s__law_settled, [], []⟩
abbrev s__law_found : Stmt := (top 102)
def d__law_found : Df := ⟨gA "_law_found", "_law_found", "_law_found", defArgs s__law_found, defBody s__law_found, defScope s__law_found, [], []⟩
abbrev s__law_at : Stmt := (top 103)
def d__law_at : Df := ⟨gA "_law_at", "_law_at", "_law_at", defArgs s__law_at, defBody s__law_at, defScope s__law_at, [], []⟩
abbrev s__law_between : Stmt := (top 104)
def d__law_between : Df := ⟨gA "_law_between", "_law_between", "_law_between", defArgs s__law_between, defBody s__law_between, defScope s__law_between, [], []⟩
abbrev s__law_beginning : Stmt := (top 105)
def d__law_beginning : Df := ⟨gA "_law_beginning", "_law_beginning", "_law_beginning", defArgs s__law_beginning, defBody s__law_beginning, defScope s__law_beginning, [], []⟩
abbrev s__law_wanted : Stmt := (top 106)
def d__law_wanted : Df := ⟨gA "_law_wanted", "_law_wanted", "_law_wanted", defArgs s__law_wanted, defBody s__law_wanted, defScope s__law_wanted, [], []⟩
abbrev s__law_drawn_tie : Stmt := (top 107)
def d__law_drawn_tie : Df := ⟨gA "_law_drawn_tie", "_law_drawn_tie", "_law_drawn_tie", defArgs s__law_drawn_tie, defBody s__law_drawn_tie, defScope s__law_drawn_tie, [], []⟩
abbrev s__law_fitted : Stmt := (top 108)
def d__law_fitted : Df := ⟨gA "_law_fitted", "_law_fitted", "_law_fitted", defArgs s__law_fitted, defBody s__law_fitted, defScope s__law_fitted, [], []⟩
abbrev s__law_lore : Stmt := (top 109)
def d__law_lore : Df := ⟨gA "_law_lore", "_law_lore", "_law_lore", defArgs s__law_lore, defBody s__law_lore, defScope s__law_lore, [], []⟩
abbrev s__law_block_rows : Stmt := (top 110)
def d__law_block_rows : Df := ⟨gA "_law_block_rows", "_law_block_rows", "_law_block_rows", defArgs s__law_block_rows, defBody s__law_block_rows, defScope s__law_block_rows, [], []⟩
abbrev s__law_blocks : Stmt := (top 111)
def d__law_blocks : Df := ⟨gA "_law_blocks", "_law_blocks", "_law_blocks", defArgs s__law_blocks, defBody s__law_blocks, defScope s__law_blocks, [], []⟩
abbrev s__law_spot : Stmt := (top 112)
def d__law_spot : Df := ⟨gA "_law_spot", "_law_spot", "_law_spot", defArgs s__law_spot, defBody s__law_spot, defScope s__law_spot, [], []⟩
abbrev s__law_block_found : Stmt := (top 113)
def d__law_block_found : Df := ⟨gA "_law_block_found", "_law_block_found", "_law_block_found", defArgs s__law_block_found, defBody s__law_block_found, defScope s__law_block_found, [], []⟩
abbrev s__law_offsets : Stmt := (top 114)
def d__law_offsets : Df := ⟨gA "_law_offsets", "_law_offsets", "_law_offsets", defArgs s__law_offsets, defBody s__law_offsets, defScope s__law_offsets, [], []⟩
abbrev s__law_is_offset_right : Stmt := (top 115)
def d__law_is_offset_right : Df := ⟨gA "_law_is_offset_right", "_law_is_offset_right", "_law_is_offset_right", defArgs s__law_is_offset_right, defBody s__law_is_offset_right, defScope s__law_is_offset_right, [], []⟩
abbrev s__law_is_window_right : Stmt := (top 116)
def d__law_is_window_right : Df := ⟨gA "_law_is_window_right", "_law_is_window_right", "_law_is_window_right", defArgs s__law_is_window_right, defBody s__law_is_window_right, defScope s__law_is_window_right, [], []⟩
abbrev s__law_right : Stmt := (top 117)
def d__law_right : Df := ⟨gA "_law_right", "_law_right", "_law_right", defArgs s__law_right, defBody s__law_right, defScope s__law_right, [], []⟩
abbrev s_law : Stmt := (top 118)
def d_law : Df := ⟨gA "law", "law", "law", defArgs s_law, defBody s_law, defScope s_law, [], []⟩
def fn0 : List Df := [d_is_integer, d_number_told, d_numbers_told, d_line_parts, d_Tie_init, d_Tie_first, d_Tie_second, d_Tie_length, d_Tie_amount, d_Tie_down, d_Tie_backward, d_Tie_shift, d_Tie_turn, d_Tie_partner, d_Tie_led, d_Tie_between]
def fn1 : List Df := [d_Tie_part, d_Tie_invert, d_Tie_places_into, d_Tie_rshift, d_Tie_led_often, d_Tie_mul, d_tie_told, d_is_tie_within, d_Link_init, d_Link_behind, d_back, d_joined, d_times, d_part, d_is_one_part, d_cannot_be]
def fn2 : List Df := [d_is_pin, d_evened, d_rounds, d_way_to, d_read_by_pin, d_read_by_link, d_read_through, d_shortened, d_all_evened, d_end_of, d_cut_off, d_rows_by, d_Ladder_init, d_Ladder_walk, d_Ladder_reading, d_links_of]
def fn3 : List Df := [d_ladder_of, d_check_place, d_kept_ladder, d_hangs, d_heard, d_size_told, d_tie_in, d_note_in, d_read_book, d_Book_init, d_Book_size, d_Book_ties, d_Book_notes, d__law_pot, d__law_take, d__law_far]
def fn4 : List Df := [d__law_of, d__law_cells, d__law_amount, d__law_tie_text, d__law_book_text, d__law_partner, d__law_pairs, d__law_webs, d__law_web_from, d__law_settled, d__law_found, d__law_at, d__law_between, d__law_beginning, d__law_wanted, d__law_drawn_tie]
def fn5 : List Df := [d__law_fitted, d__law_lore, d__law_block_rows, d__law_blocks, d__law_spot, d__law_block_found, d__law_offsets, d__law_is_offset_right, d__law_is_window_right, d__law_right, d_law]
def fn : List Df := fn0 ++ fn1 ++ fn2 ++ fn3 ++ fn4 ++ fn5
def q_g_is_integer : Fg → Bool := fun K => (He.Fa.glo "is_integer").ok K
def q_g_number_told : Fg → Bool := fun K => (He.Fa.glo "number_told").ok K
def q_g_numbers_told : Fg → Bool := fun K => (He.Fa.glo "numbers_told").ok K
def q_g_line_parts : Fg → Bool := fun K => (He.Fa.glo "line_parts").ok K
def q_g_tie_told : Fg → Bool := fun K => (He.Fa.glo "tie_told").ok K
def q_g_is_tie_within : Fg → Bool := fun K => (He.Fa.glo "is_tie_within").ok K
def q_g_back : Fg → Bool := fun K => (He.Fa.glo "back").ok K
def q_g_joined : Fg → Bool := fun K => (He.Fa.glo "joined").ok K
def q_g_times : Fg → Bool := fun K => (He.Fa.glo "times").ok K
def q_g_part : Fg → Bool := fun K => (He.Fa.glo "part").ok K
def q_g_is_one_part : Fg → Bool := fun K => (He.Fa.glo "is_one_part").ok K
def q_g_cannot_be : Fg → Bool := fun K => (He.Fa.glo "cannot_be").ok K
def q_g_is_pin : Fg → Bool := fun K => (He.Fa.glo "is_pin").ok K
def q_g_evened : Fg → Bool := fun K => (He.Fa.glo "evened").ok K
def q_g_rounds : Fg → Bool := fun K => (He.Fa.glo "rounds").ok K
def q_g_way_to : Fg → Bool := fun K => (He.Fa.glo "way_to").ok K
def q_g_read_by_pin : Fg → Bool := fun K => (He.Fa.glo "read_by_pin").ok K
def q_g_read_by_link : Fg → Bool := fun K => (He.Fa.glo "read_by_link").ok K
def q_g_read_through : Fg → Bool := fun K => (He.Fa.glo "read_through").ok K
def q_g_shortened : Fg → Bool := fun K => (He.Fa.glo "shortened").ok K
def q_g_all_evened : Fg → Bool := fun K => (He.Fa.glo "all_evened").ok K
def q_g_end_of : Fg → Bool := fun K => (He.Fa.glo "end_of").ok K
def q_g_cut_off : Fg → Bool := fun K => (He.Fa.glo "cut_off").ok K
def q_g_rows_by : Fg → Bool := fun K => (He.Fa.glo "rows_by").ok K
def q_g_links_of : Fg → Bool := fun K => (He.Fa.glo "links_of").ok K
def q_g_ladder_of : Fg → Bool := fun K => (He.Fa.glo "ladder_of").ok K
def q_g_check_place : Fg → Bool := fun K => (He.Fa.glo "check_place").ok K
def q_g_kept_ladder : Fg → Bool := fun K => (He.Fa.glo "kept_ladder").ok K
def q_g_hangs : Fg → Bool := fun K => (He.Fa.glo "hangs").ok K
def q_g_heard : Fg → Bool := fun K => (He.Fa.glo "heard").ok K
def q_g_size_told : Fg → Bool := fun K => (He.Fa.glo "size_told").ok K
def q_g_tie_in : Fg → Bool := fun K => (He.Fa.glo "tie_in").ok K
def q_g_note_in : Fg → Bool := fun K => (He.Fa.glo "note_in").ok K
def q_g_read_book : Fg → Bool := fun K => (He.Fa.glo "read_book").ok K
def q_g__law_pot : Fg → Bool := fun K => (He.Fa.glo "_law_pot").ok K
def q_g__law_take : Fg → Bool := fun K => (He.Fa.glo "_law_take").ok K
def q_g__law_far : Fg → Bool := fun K => (He.Fa.glo "_law_far").ok K
def q_g__law_of : Fg → Bool := fun K => (He.Fa.glo "_law_of").ok K
def q_g__law_cells : Fg → Bool := fun K => (He.Fa.glo "_law_cells").ok K
def q_g__law_amount : Fg → Bool := fun K => (He.Fa.glo "_law_amount").ok K
def q_g__law_tie_text : Fg → Bool := fun K => (He.Fa.glo "_law_tie_text").ok K
def q_g__law_book_text : Fg → Bool := fun K => (He.Fa.glo "_law_book_text").ok K
def q_g__law_partner : Fg → Bool := fun K => (He.Fa.glo "_law_partner").ok K
def q_g__law_pairs : Fg → Bool := fun K => (He.Fa.glo "_law_pairs").ok K
def q_g__law_webs : Fg → Bool := fun K => (He.Fa.glo "_law_webs").ok K
def q_g__law_web_from : Fg → Bool := fun K => (He.Fa.glo "_law_web_from").ok K
def q_g__law_settled : Fg → Bool := fun K => (He.Fa.glo "_law_settled").ok K
def q_g__law_found : Fg → Bool := fun K => (He.Fa.glo "_law_found").ok K
def q_g__law_at : Fg → Bool := fun K => (He.Fa.glo "_law_at").ok K
def q_g__law_between : Fg → Bool := fun K => (He.Fa.glo "_law_between").ok K
def q_g__law_beginning : Fg → Bool := fun K => (He.Fa.glo "_law_beginning").ok K
def q_g__law_wanted : Fg → Bool := fun K => (He.Fa.glo "_law_wanted").ok K
def q_g__law_drawn_tie : Fg → Bool := fun K => (He.Fa.glo "_law_drawn_tie").ok K
def q_g__law_fitted : Fg → Bool := fun K => (He.Fa.glo "_law_fitted").ok K
def q_g__law_lore : Fg → Bool := fun K => (He.Fa.glo "_law_lore").ok K
def q_g__law_block_rows : Fg → Bool := fun K => (He.Fa.glo "_law_block_rows").ok K
def q_g__law_blocks : Fg → Bool := fun K => (He.Fa.glo "_law_blocks").ok K
def q_g__law_spot : Fg → Bool := fun K => (He.Fa.glo "_law_spot").ok K
def q_g__law_block_found : Fg → Bool := fun K => (He.Fa.glo "_law_block_found").ok K
def q_g__law_offsets : Fg → Bool := fun K => (He.Fa.glo "_law_offsets").ok K
def q_g__law_is_offset_right : Fg → Bool := fun K => (He.Fa.glo "_law_is_offset_right").ok K
def q_g__law_is_window_right : Fg → Bool := fun K => (He.Fa.glo "_law_is_window_right").ok K
def q_g__law_right : Fg → Bool := fun K => (He.Fa.glo "_law_right").ok K
def q_g_Tie : Fg → Bool := fun K => (He.Fa.glo "Tie").ok K
def q_g_Link : Fg → Bool := fun K => (He.Fa.glo "Link").ok K
def q_g_Ladder : Fg → Bool := fun K => (He.Fa.glo "Ladder").ok K
def q_g_Book : Fg → Bool := fun K => (He.Fa.glo "Book").ok K
def q_g_law : Fg → Bool := fun K => (He.Fa.glo "law").ok K
def q_f_isinstance : Fg → Bool := fun K => (He.Fa.free "isinstance").ok K
def q_f_int : Fg → Bool := fun K => (He.Fa.free "int").ok K
def q_f_bool : Fg → Bool := fun K => (He.Fa.free "bool").ok K
def q_f_all : Fg → Bool := fun K => (He.Fa.free "all").ok K
def q_f_len : Fg → Bool := fun K => (He.Fa.free "len").ok K
def q_f_max : Fg → Bool := fun K => (He.Fa.free "max").ok K
def q_f_min : Fg → Bool := fun K => (He.Fa.free "min").ok K
def q_f_str : Fg → Bool := fun K => (He.Fa.free "str").ok K
def q_f_range : Fg → Bool := fun K => (He.Fa.free "range").ok K
def q_f_list : Fg → Bool := fun K => (He.Fa.free "list").ok K
def q_f_sorted : Fg → Bool := fun K => (He.Fa.free "sorted").ok K
def q_f_set : Fg → Bool := fun K => (He.Fa.free "set").ok K
def q_f_repr : Fg → Bool := fun K => (He.Fa.free "repr").ok K
def q_f_enumerate : Fg → Bool := fun K => (He.Fa.free "enumerate").ok K
def q_f_tuple : Fg → Bool := fun K => (He.Fa.free "tuple").ok K
def q_f_abs : Fg → Bool := fun K => (He.Fa.free "abs").ok K
def q_f_NotImplemented : Fg → Bool := fun K => (He.Fa.free "NotImplemented").ok K
def q_i_END : Fg → Bool := fun K => (He.Fa.int "END" 1000000000000000000000000000000).ok K
def q_i_WORDS : Fg → Bool := fun K => (He.Fa.int "WORDS" 5).ok K
def q_i_MOST_WORDS : Fg → Bool := fun K => (He.Fa.int "MOST_WORDS" 6).ok K
def q_i_MOST : Fg → Bool := fun K => (He.Fa.int "MOST" 12).ok K
def q_i_PAIR : Fg → Bool := fun K => (He.Fa.int "PAIR" 2).ok K
def q_i_MOST_HEARD : Fg → Bool := fun K => (He.Fa.int "MOST_HEARD" 99).ok K
def q_z_FIGURES : Fg → Bool := fun K => (He.Fa.str "FIGURES" "0123456789").ok K
def q_z_BLANK : Fg → Bool := fun K => (He.Fa.str "BLANK" " ").ok K
def q_z_FEED : Fg → Bool := fun K => (He.Fa.str "FEED" "\n").ok K
def q_z_UP : Fg → Bool := fun K => (He.Fa.str "UP" "up").ok K
def q_z_DOWN : Fg → Bool := fun K => (He.Fa.str "DOWN" "down").ok K
def q_z_BACK_ties : Fg → Bool := fun K => (He.Fa.str "BACK_ties" "back").ok K
def q_z_TOLD : Fg → Bool := fun K => (He.Fa.str "TOLD" "told").ok K
def q_z_NOTE_ladder : Fg → Bool := fun K => (He.Fa.str "NOTE_ladder" "note").ok K
def q_z_BACK_ladder : Fg → Bool := fun K => (He.Fa.str "BACK_ladder" "back").ok K
def q_z_JOINED : Fg → Bool := fun K => (He.Fa.str "JOINED" "joined").ok K
def q_z_TIMES : Fg → Bool := fun K => (He.Fa.str "TIMES" "times").ok K
def q_z_PART : Fg → Bool := fun K => (He.Fa.str "PART" "part").ok K
def q_z_SIZE : Fg → Bool := fun K => (He.Fa.str "SIZE" "size").ok K
def q_z_TIE : Fg → Bool := fun K => (He.Fa.str "TIE" "tie").ok K
def q_z_NOTE_books : Fg → Bool := fun K => (He.Fa.str "NOTE_books" "note").ok K
def q_c_Tie : Fg → Bool := fun K => (He.Fa.cls "Tie").ok K
def q_c_Ladder : Fg → Bool := fun K => (He.Fa.cls "Ladder").ok K
def q_c_Book : Fg → Bool := fun K => (He.Fa.cls "Book").ok K
def q_n_Tie_own_first : Fg → Bool := fun K => (He.Fa.noat "Tie" "own_first").ok K
def q_n_Tie_own_second : Fg → Bool := fun K => (He.Fa.noat "Tie" "own_second").ok K
def q_n_Tie_own_length : Fg → Bool := fun K => (He.Fa.noat "Tie" "own_length").ok K
def q_n_Tie_own_amount : Fg → Bool := fun K => (He.Fa.noat "Tie" "own_amount").ok K
def q_n_Tie_own_down : Fg → Bool := fun K => (He.Fa.noat "Tie" "own_down").ok K
def q_n_Tie_own_backward : Fg → Bool := fun K => (He.Fa.noat "Tie" "own_backward").ok K
def q_n_Ladder_cuts : Fg → Bool := fun K => (He.Fa.noat "Ladder" "cuts").ok K
def q_n_Ladder_parts : Fg → Bool := fun K => (He.Fa.noat "Ladder" "parts").ok K
def q_n_Ladder_broken : Fg → Bool := fun K => (He.Fa.noat "Ladder" "broken").ok K
def q_n_Book_own_size : Fg → Bool := fun K => (He.Fa.noat "Book" "own_size").ok K
def q_n_Book_own_ties : Fg → Bool := fun K => (He.Fa.noat "Book" "own_ties").ok K
def q_n_Book_own_notes : Fg → Bool := fun K => (He.Fa.noat "Book" "own_notes").ok K
def q_n_Book_own_text : Fg → Bool := fun K => (He.Fa.noat "Book" "own_text").ok K
def q_n_Book_own_ladder : Fg → Bool := fun K => (He.Fa.noat "Book" "own_ladder").ok K
def q_k_Tie : Fg → Bool := fun K => (He.Fa.mkr "Tie").ok K
def q_k_Ladder : Fg → Bool := fun K => (He.Fa.mkr "Ladder").ok K
def q_k_Book : Fg → Bool := fun K => (He.Fa.mkr "Book").ok K
def q_k_Link : Fg → Bool := fun K => (He.Fa.mkr "Link").ok K
def q_m_Tie_partner : Fg → Bool := fun K => (He.Fa.meth "Tie" "partner").ok K
def q_m_Tie_led : Fg → Bool := fun K => (He.Fa.meth "Tie" "led").ok K
def q_m_Tie_between : Fg → Bool := fun K => (He.Fa.meth "Tie" "between").ok K
def q_m_Tie_part : Fg → Bool := fun K => (He.Fa.meth "Tie" "part").ok K
def q_m_Tie_places_into : Fg → Bool := fun K => (He.Fa.meth "Tie" "places_into").ok K
def q_m_Tie_led_often : Fg → Bool := fun K => (He.Fa.meth "Tie" "led_often").ok K
def q_m_Ladder_walk : Fg → Bool := fun K => (He.Fa.meth "Ladder" "walk").ok K
def q_m_Ladder_reading : Fg → Bool := fun K => (He.Fa.meth "Ladder" "reading").ok K
def q_p_Tie_first : Fg → Bool := tProp "Tie" "first"
def q_p_Tie_second : Fg → Bool := tProp "Tie" "second"
def q_p_Tie_length : Fg → Bool := tProp "Tie" "length"
def q_p_Tie_amount : Fg → Bool := tProp "Tie" "amount"
def q_p_Tie_down : Fg → Bool := tProp "Tie" "down"
def q_p_Tie_backward : Fg → Bool := tProp "Tie" "backward"
def q_p_Tie_shift : Fg → Bool := tProp "Tie" "shift"
def q_p_Tie_turn : Fg → Bool := tProp "Tie" "turn"
def q_p_Link_behind : Fg → Bool := tProp "Link" "behind"
def q_p_Book_size : Fg → Bool := tProp "Book" "size"
def q_p_Book_ties : Fg → Bool := tProp "Book" "ties"
def q_p_Book_notes : Fg → Bool := tProp "Book" "notes"
def q_sl_Link : Fg → Bool := tSlC "Link"
def q_sl_parents : Fg → Bool := tSlot "Link" "parents" 0
def q_sl_reason : Fg → Bool := tSlot "Link" "reason" 1
def q_sl_tie : Fg → Bool := tSlot "Link" "tie" 2
def q_ins_Tie : Fg → Bool := tIns "Tie"
def q_o_invert : Fg → Bool := tOwn "Tie" "__invert__"
def q_o_rshift : Fg → Bool := tOwn "Tie" "__rshift__"
def q_o_mul : Fg → Bool := tOwn "Tie" "__mul__"
def q_o_mulI : Fg → Bool := tMulI "Tie"
def fz0 : List (Fg → Bool) := [q_g_is_integer, q_g_number_told, q_g_numbers_told, q_g_line_parts, q_g_tie_told, q_g_is_tie_within, q_g_back, q_g_joined, q_g_times, q_g_part, q_g_is_one_part, q_g_cannot_be, q_g_is_pin, q_g_evened, q_g_rounds, q_g_way_to]
def fz1 : List (Fg → Bool) := [q_g_read_by_pin, q_g_read_by_link, q_g_read_through, q_g_shortened, q_g_all_evened, q_g_end_of, q_g_cut_off, q_g_rows_by, q_g_links_of, q_g_ladder_of, q_g_check_place, q_g_kept_ladder, q_g_hangs, q_g_heard, q_g_size_told, q_g_tie_in]
def fz2 : List (Fg → Bool) := [q_g_note_in, q_g_read_book, q_g__law_pot, q_g__law_take, q_g__law_far, q_g__law_of, q_g__law_cells, q_g__law_amount, q_g__law_tie_text, q_g__law_book_text, q_g__law_partner, q_g__law_pairs, q_g__law_webs, q_g__law_web_from, q_g__law_settled, q_g__law_found]
def fz3 : List (Fg → Bool) := [q_g__law_at, q_g__law_between, q_g__law_beginning, q_g__law_wanted, q_g__law_drawn_tie, q_g__law_fitted, q_g__law_lore, q_g__law_block_rows, q_g__law_blocks, q_g__law_spot, q_g__law_block_found, q_g__law_offsets, q_g__law_is_offset_right, q_g__law_is_window_right, q_g__law_right, q_g_Tie]
def fz4 : List (Fg → Bool) := [q_g_Link, q_g_Ladder, q_g_Book, q_g_law, q_f_isinstance, q_f_int, q_f_bool, q_f_all, q_f_len, q_f_max, q_f_min, q_f_str, q_f_range, q_f_list, q_f_sorted, q_f_set]
def fz5 : List (Fg → Bool) := [q_f_repr, q_f_enumerate, q_f_tuple, q_f_abs, q_f_NotImplemented, q_i_END, q_i_WORDS, q_i_MOST_WORDS, q_i_MOST, q_i_PAIR, q_i_MOST_HEARD, q_z_FIGURES, q_z_BLANK, q_z_FEED, q_z_UP, q_z_DOWN]
def fz6 : List (Fg → Bool) := [q_z_BACK_ties, q_z_TOLD, q_z_NOTE_ladder, q_z_BACK_ladder, q_z_JOINED, q_z_TIMES, q_z_PART, q_z_SIZE, q_z_TIE, q_z_NOTE_books, q_c_Tie, q_c_Ladder, q_c_Book, q_n_Tie_own_first, q_n_Tie_own_second, q_n_Tie_own_length]
def fz7 : List (Fg → Bool) := [q_n_Tie_own_amount, q_n_Tie_own_down, q_n_Tie_own_backward, q_n_Ladder_cuts, q_n_Ladder_parts, q_n_Ladder_broken, q_n_Book_own_size, q_n_Book_own_ties, q_n_Book_own_notes, q_n_Book_own_text, q_n_Book_own_ladder, q_k_Tie, q_k_Ladder, q_k_Book, q_k_Link, q_m_Tie_partner]
def fz8 : List (Fg → Bool) := [q_m_Tie_led, q_m_Tie_between, q_m_Tie_part, q_m_Tie_places_into, q_m_Tie_led_often, q_m_Ladder_walk, q_m_Ladder_reading, q_p_Tie_first, q_p_Tie_second, q_p_Tie_length, q_p_Tie_amount, q_p_Tie_down, q_p_Tie_backward, q_p_Tie_shift, q_p_Tie_turn, q_p_Link_behind]
def fz9 : List (Fg → Bool) := [q_p_Book_size, q_p_Book_ties, q_p_Book_notes, q_sl_Link, q_sl_parents, q_sl_reason, q_sl_tie, q_ins_Tie, q_o_invert, q_o_rshift, q_o_mul, q_o_mulI]
def fz : List (Fg → Bool) := fz0 ++ fz1 ++ fz2 ++ fz3 ++ fz4 ++ fz5 ++ fz6 ++ fz7 ++ fz8 ++ fz9
def kid (g : Addr → Option Obj) (a : Addr) : List Addr :=
  match g a with
  | some ob =>
    match ob.data with
    | .func z => He.refV z.code ++ He.refV z.defaults ++ He.refV z.kwdefaults
    | .cls cd => [cd.ns]
    | .dict es _ => es.toList.flatMap fun e => He.refV e.val
    | .fields vs => vs.toList.flatMap He.refV
    | .seq vs _ => vs.toList.flatMap He.refV
    | _ => []
  | _ => []
def lay (g : Addr → Option Obj) : Nat → List Addr → List Addr
  | 0, l => l
  | n + 1, l => l ++ lay g n (l.flatMap (kid g))
/-! the hook -/
def obsK (K : Fg) : He.AlD := ((fz.all fun f => f K) && fn.all fun d => d.fine K, fn.map fun d => seen K (d.at_ K))
def dueK : He.AlD := (true, fn.map Df.due)
def obsA (n : Nat) (g : Addr → Option Obj) : He.AlD := obsK (He.frG g (lay g n [mainGlobals]))
def hkN (n : Nat) : PySem.W.Hook where
  α := He.AlD
  obs := fun s => obsA n s.heap.get?
  val := fun _ => dueK
  says := fun _ h => ∃ K : Fg, K.In h ∧ obsK K = dueK
  of := fun _ _ e => ⟨_, He.frG_in, e⟩
  keeps := fun _ _ _ ⟨K, hK, c⟩ k => ⟨K, PySem.W.Frag.In.keeps hK k, c⟩

abbrev R : PySem.W.OpenRow := PySem.W.OpenLaw.row PySem.Challenge.rw_turnedtunes_k18_whole_hangs_of_rows_of_p
abbrev hk : PySem.W.Hook := hkN 5
def ob (s : PySem.W.SharedT) : He.AlD := obsA 5 (HandSHeadRun.getT s)
theorem ob_eq (s : PySem.W.SharedT) : ob s = hk.obs s.abs := by
  have e : HandSHeadRun.getT s = s.abs.heap.get? := funext (HandSHeadRun.getT_eq s)
  show obsA 5 (HandSHeadRun.getT s) = obsA 5 s.abs.heap.get?
  rw [e]
def nm0 : List PySem.Str := ["_wall", "TuneError", "BadPlace", "BadLength", "BadAmount", "BadWay", "BadText", "NoPlace", "BadNote", "BadPart", "NoJoint", "BadNumber", "BadBook", "NoTie", "Full", "OtherSize"]
def nm1 : List PySem.Str := ["OtherNote", "BadSize", "Clash", "FIGURES", "BLANK", "FEED", "END", "is_integer", "number_told", "numbers_told", "line_parts", "UP", "DOWN", "BACK_ties", "WORDS", "MOST_WORDS"]
def nm2 : List PySem.Str := ["Tie", "tie_told", "is_tie_within", "TOLD", "NOTE_ladder", "BACK_ladder", "JOINED", "TIMES", "PART", "Link", "back", "joined", "times", "part", "is_one_part", "cannot_be"]
def nm3 : List PySem.Str := ["is_pin", "evened", "rounds", "way_to", "read_by_pin", "read_by_link", "read_through", "shortened", "all_evened", "end_of", "cut_off", "rows_by", "Ladder", "links_of", "ladder_of", "check_place"]
def nm4 : List PySem.Str := ["kept_ladder", "MOST_HEARD", "hangs", "heard", "SIZE", "TIE", "NOTE_books", "MOST", "PAIR", "size_told", "tie_in", "note_in", "read_book", "made_book", "turned_about", "moved"]
def nm5 : List PySem.Str := ["turned_over", "Book", "_law_pot", "_law_take", "_law_far", "_law_of", "_law_cells", "_law_amount", "_law_tie_text", "_law_book_text", "_law_partner", "_law_pairs", "_law_webs", "_law_web_from", "_law_settled", "_law_found"]
def nm6 : List PySem.Str := ["_law_at", "_law_between", "_law_beginning", "_law_wanted", "_law_drawn_tie", "_law_fitted", "_law_lore", "_law_block_rows", "_law_blocks", "_law_spot", "_law_block_found", "_law_offsets", "_law_is_offset_right", "_law_is_window_right", "_law_right"]
def names : List PySem.Str := (nm0 : List PySem.Str) ++ (nm1 : List PySem.Str) ++ (nm2 : List PySem.Str) ++ (nm3 : List PySem.Str) ++ (nm4 : List PySem.Str) ++ (nm5 : List PySem.Str) ++ (nm6 : List PySem.Str)
noncomputable abbrev endH (w : World) (os : OsState) : Option PySem.W.SharedT := HandSHeadRun.endF (HandSHeadRun.stepQ (HandSHeadRun.denQ HandSHeadRun.tabQ) R.prog w) 20000 R.prog w os
/-! the run, looked at four times: each look a declaration of its own (memory) -/
theorem runA (w : World) (os : OsState) : (endH w os).map (fun s => HandSHeadRun.looksF R.prog (PySem.W.boot_heap w.params) s.abs) = some true := by
  kernel_rfl
theorem runB (w : World) (os : OsState) : (endH w os).map (fun s => HandSHeadRun.seenQ (PySem.W.view R.prog [118]) names (importedModules R.prog.main.body) (fun s => PySem.W.xlAt (PySem.W.view R.prog [118]) [] s && PySem.W.recOk R.toRowW.records s) s.abs) = some (PySem.W.openGood (PySem.W.view R.prog [118]) names) := by
  kernel_rfl
theorem runC (w : World) (os : OsState) : (endH w os).map (fun s => (ob s).1) = some true := by
  kernel_rfl
theorem runD (w : World) (os : OsState) : (endH w os).map (fun s => (ob s).2) = some (fn.map Df.due) := by
  kernel_rfl
theorem run (w : World) : HandSHeadRun.RunEq R (PySem.W.view R.prog [118]) hk ob 20000 names w := by
  intro os
  have a := runA w os
  have b := runB w os
  have c := runC w os
  have d := runD w os
  show (endH w os).map _ = _
  revert a b c d
  generalize endH w os = e
  intro a b c d
  cases e with
  | none => cases a
  | some s =>
    have a := Option.some.inj a
    have b := Option.some.inj b
    have c := Option.some.inj c
    have d := Option.some.inj d
    exact congrArg some (Prod.ext a (Prod.ext b (Prod.ext c d)))
/-! what is known of the written part, and of the module's names -/
structure Env (K : Fg) (mg : Str → Option Value) : Prop where
  all : obsK K = dueK
  nm : ∀ {x : Str} {u : Option Value}, PySem.W.nsIn K mainGlobals x = some u → mg x = u
theorem Env.fact {K : Fg} {mg : Str → Option Value} (c : Env K mg) (i : Nat) {f : Fg → Bool} (h : fz[i]? = some f := by rfl) : f K = true := by
  have c1 := (He.ba (show ((fz.all fun f => f K) && fn.all fun d => d.fine K) = true from congrArg (fun z : He.AlD => z.1) c.all)).1
  exact List.all_eq_true.mp c1 f (List.mem_of_getElem? h)
theorem Env.df {K : Fg} {mg : Str → Option Value} (c : Env K mg) (i : Nat) {d : Df} (h : fn[i]? = some d := by rfl) : ∃ fd, FunD K d.name d.qual d.params d.body d.scope (d.dv K) (d.kw K) (d.at_ K) fd := by
  have c2 := (He.ba (show ((fz.all fun f => f K) && fn.all fun d => d.fine K) = true from congrArg (fun z : He.AlD => z.1) c.all)).2
  have e : fn.map (fun d => seen K (d.at_ K)) = fn.map Df.due := congrArg (fun z : He.AlD => z.2) c.all
  have e2 : (fn.map fun d => seen K (d.at_ K))[i]? = (fn.map Df.due)[i]? := by rw [e]
  rw [List.getElem?_map, List.getElem?_map, h] at e2
  exact Df.made (Option.some.inj e2) (List.all_eq_true.mp c2 d (List.mem_of_getElem? h))
section
variable {K : Fg} {mg : Str → Option Value}
theorem g_is_integer (c : Env K mg) : mg "is_integer" = some (.ref (gA "is_integer" K)) := c.nm (He.eqO_ok (c.fact 0))
theorem g_number_told (c : Env K mg) : mg "number_told" = some (.ref (gA "number_told" K)) := c.nm (He.eqO_ok (c.fact 1))
theorem g_numbers_told (c : Env K mg) : mg "numbers_told" = some (.ref (gA "numbers_told" K)) := c.nm (He.eqO_ok (c.fact 2))
theorem g_line_parts (c : Env K mg) : mg "line_parts" = some (.ref (gA "line_parts" K)) := c.nm (He.eqO_ok (c.fact 3))
theorem g_tie_told (c : Env K mg) : mg "tie_told" = some (.ref (gA "tie_told" K)) := c.nm (He.eqO_ok (c.fact 4))
theorem g_is_tie_within (c : Env K mg) : mg "is_tie_within" = some (.ref (gA "is_tie_within" K)) := c.nm (He.eqO_ok (c.fact 5))
theorem g_back (c : Env K mg) : mg "back" = some (.ref (gA "back" K)) := c.nm (He.eqO_ok (c.fact 6))
theorem g_joined (c : Env K mg) : mg "joined" = some (.ref (gA "joined" K)) := c.nm (He.eqO_ok (c.fact 7))
theorem g_times (c : Env K mg) : mg "times" = some (.ref (gA "times" K)) := c.nm (He.eqO_ok (c.fact 8))
theorem g_part (c : Env K mg) : mg "part" = some (.ref (gA "part" K)) := c.nm (He.eqO_ok (c.fact 9))
theorem g_is_one_part (c : Env K mg) : mg "is_one_part" = some (.ref (gA "is_one_part" K)) := c.nm (He.eqO_ok (c.fact 10))
theorem g_cannot_be (c : Env K mg) : mg "cannot_be" = some (.ref (gA "cannot_be" K)) := c.nm (He.eqO_ok (c.fact 11))
theorem g_is_pin (c : Env K mg) : mg "is_pin" = some (.ref (gA "is_pin" K)) := c.nm (He.eqO_ok (c.fact 12))
theorem g_evened (c : Env K mg) : mg "evened" = some (.ref (gA "evened" K)) := c.nm (He.eqO_ok (c.fact 13))
theorem g_rounds (c : Env K mg) : mg "rounds" = some (.ref (gA "rounds" K)) := c.nm (He.eqO_ok (c.fact 14))
theorem g_way_to (c : Env K mg) : mg "way_to" = some (.ref (gA "way_to" K)) := c.nm (He.eqO_ok (c.fact 15))
theorem g_read_by_pin (c : Env K mg) : mg "read_by_pin" = some (.ref (gA "read_by_pin" K)) := c.nm (He.eqO_ok (c.fact 16))
theorem g_read_by_link (c : Env K mg) : mg "read_by_link" = some (.ref (gA "read_by_link" K)) := c.nm (He.eqO_ok (c.fact 17))
theorem g_read_through (c : Env K mg) : mg "read_through" = some (.ref (gA "read_through" K)) := c.nm (He.eqO_ok (c.fact 18))
theorem g_shortened (c : Env K mg) : mg "shortened" = some (.ref (gA "shortened" K)) := c.nm (He.eqO_ok (c.fact 19))
theorem g_all_evened (c : Env K mg) : mg "all_evened" = some (.ref (gA "all_evened" K)) := c.nm (He.eqO_ok (c.fact 20))
theorem g_end_of (c : Env K mg) : mg "end_of" = some (.ref (gA "end_of" K)) := c.nm (He.eqO_ok (c.fact 21))
theorem g_cut_off (c : Env K mg) : mg "cut_off" = some (.ref (gA "cut_off" K)) := c.nm (He.eqO_ok (c.fact 22))
theorem g_rows_by (c : Env K mg) : mg "rows_by" = some (.ref (gA "rows_by" K)) := c.nm (He.eqO_ok (c.fact 23))
theorem g_links_of (c : Env K mg) : mg "links_of" = some (.ref (gA "links_of" K)) := c.nm (He.eqO_ok (c.fact 24))
theorem g_ladder_of (c : Env K mg) : mg "ladder_of" = some (.ref (gA "ladder_of" K)) := c.nm (He.eqO_ok (c.fact 25))
theorem g_check_place (c : Env K mg) : mg "check_place" = some (.ref (gA "check_place" K)) := c.nm (He.eqO_ok (c.fact 26))
theorem g_kept_ladder (c : Env K mg) : mg "kept_ladder" = some (.ref (gA "kept_ladder" K)) := c.nm (He.eqO_ok (c.fact 27))
theorem g_hangs (c : Env K mg) : mg "hangs" = some (.ref (gA "hangs" K)) := c.nm (He.eqO_ok (c.fact 28))
theorem g_heard (c : Env K mg) : mg "heard" = some (.ref (gA "heard" K)) := c.nm (He.eqO_ok (c.fact 29))
theorem g_size_told (c : Env K mg) : mg "size_told" = some (.ref (gA "size_told" K)) := c.nm (He.eqO_ok (c.fact 30))
theorem g_tie_in (c : Env K mg) : mg "tie_in" = some (.ref (gA "tie_in" K)) := c.nm (He.eqO_ok (c.fact 31))
theorem g_note_in (c : Env K mg) : mg "note_in" = some (.ref (gA "note_in" K)) := c.nm (He.eqO_ok (c.fact 32))
theorem g_read_book (c : Env K mg) : mg "read_book" = some (.ref (gA "read_book" K)) := c.nm (He.eqO_ok (c.fact 33))
theorem g__law_pot (c : Env K mg) : mg "_law_pot" = some (.ref (gA "_law_pot" K)) := c.nm (He.eqO_ok (c.fact 34))
theorem g__law_take (c : Env K mg) : mg "_law_take" = some (.ref (gA "_law_take" K)) := c.nm (He.eqO_ok (c.fact 35))
theorem g__law_far (c : Env K mg) : mg "_law_far" = some (.ref (gA "_law_far" K)) := c.nm (He.eqO_ok (c.fact 36))
theorem g__law_of (c : Env K mg) : mg "_law_of" = some (.ref (gA "_law_of" K)) := c.nm (He.eqO_ok (c.fact 37))
theorem g__law_cells (c : Env K mg) : mg "_law_cells" = some (.ref (gA "_law_cells" K)) := c.nm (He.eqO_ok (c.fact 38))
theorem g__law_amount (c : Env K mg) : mg "_law_amount" = some (.ref (gA "_law_amount" K)) := c.nm (He.eqO_ok (c.fact 39))
theorem g__law_tie_text (c : Env K mg) : mg "_law_tie_text" = some (.ref (gA "_law_tie_text" K)) := c.nm (He.eqO_ok (c.fact 40))
theorem g__law_book_text (c : Env K mg) : mg "_law_book_text" = some (.ref (gA "_law_book_text" K)) := c.nm (He.eqO_ok (c.fact 41))
theorem g__law_partner (c : Env K mg) : mg "_law_partner" = some (.ref (gA "_law_partner" K)) := c.nm (He.eqO_ok (c.fact 42))
theorem g__law_pairs (c : Env K mg) : mg "_law_pairs" = some (.ref (gA "_law_pairs" K)) := c.nm (He.eqO_ok (c.fact 43))
theorem g__law_webs (c : Env K mg) : mg "_law_webs" = some (.ref (gA "_law_webs" K)) := c.nm (He.eqO_ok (c.fact 44))
theorem g__law_web_from (c : Env K mg) : mg "_law_web_from" = some (.ref (gA "_law_web_from" K)) := c.nm (He.eqO_ok (c.fact 45))
theorem g__law_settled (c : Env K mg) : mg "_law_settled" = some (.ref (gA "_law_settled" K)) := c.nm (He.eqO_ok (c.fact 46))
theorem g__law_found (c : Env K mg) : mg "_law_found" = some (.ref (gA "_law_found" K)) := c.nm (He.eqO_ok (c.fact 47))
theorem g__law_at (c : Env K mg) : mg "_law_at" = some (.ref (gA "_law_at" K)) := c.nm (He.eqO_ok (c.fact 48))
theorem g__law_between (c : Env K mg) : mg "_law_between" = some (.ref (gA "_law_between" K)) := c.nm (He.eqO_ok (c.fact 49))
theorem g__law_beginning (c : Env K mg) : mg "_law_beginning" = some (.ref (gA "_law_beginning" K)) := c.nm (He.eqO_ok (c.fact 50))
theorem g__law_wanted (c : Env K mg) : mg "_law_wanted" = some (.ref (gA "_law_wanted" K)) := c.nm (He.eqO_ok (c.fact 51))
theorem g__law_drawn_tie (c : Env K mg) : mg "_law_drawn_tie" = some (.ref (gA "_law_drawn_tie" K)) := c.nm (He.eqO_ok (c.fact 52))
theorem g__law_fitted (c : Env K mg) : mg "_law_fitted" = some (.ref (gA "_law_fitted" K)) := c.nm (He.eqO_ok (c.fact 53))
theorem g__law_lore (c : Env K mg) : mg "_law_lore" = some (.ref (gA "_law_lore" K)) := c.nm (He.eqO_ok (c.fact 54))
theorem g__law_block_rows (c : Env K mg) : mg "_law_block_rows" = some (.ref (gA "_law_block_rows" K)) := c.nm (He.eqO_ok (c.fact 55))
theorem g__law_blocks (c : Env K mg) : mg "_law_blocks" = some (.ref (gA "_law_blocks" K)) := c.nm (He.eqO_ok (c.fact 56))
theorem g__law_spot (c : Env K mg) : mg "_law_spot" = some (.ref (gA "_law_spot" K)) := c.nm (He.eqO_ok (c.fact 57))
theorem g__law_block_found (c : Env K mg) : mg "_law_block_found" = some (.ref (gA "_law_block_found" K)) := c.nm (He.eqO_ok (c.fact 58))
theorem g__law_offsets (c : Env K mg) : mg "_law_offsets" = some (.ref (gA "_law_offsets" K)) := c.nm (He.eqO_ok (c.fact 59))
theorem g__law_is_offset_right (c : Env K mg) : mg "_law_is_offset_right" = some (.ref (gA "_law_is_offset_right" K)) := c.nm (He.eqO_ok (c.fact 60))
theorem g__law_is_window_right (c : Env K mg) : mg "_law_is_window_right" = some (.ref (gA "_law_is_window_right" K)) := c.nm (He.eqO_ok (c.fact 61))
theorem g__law_right (c : Env K mg) : mg "_law_right" = some (.ref (gA "_law_right" K)) := c.nm (He.eqO_ok (c.fact 62))
theorem g_Tie (c : Env K mg) : mg "Tie" = some (.ref (gA "Tie" K)) := c.nm (He.eqO_ok (c.fact 63))
theorem g_Link (c : Env K mg) : mg "Link" = some (.ref (gA "Link" K)) := c.nm (He.eqO_ok (c.fact 64))
theorem g_Ladder (c : Env K mg) : mg "Ladder" = some (.ref (gA "Ladder" K)) := c.nm (He.eqO_ok (c.fact 65))
theorem g_Book (c : Env K mg) : mg "Book" = some (.ref (gA "Book" K)) := c.nm (He.eqO_ok (c.fact 66))
theorem g_law (c : Env K mg) : mg "law" = some (.ref (gA "law" K)) := c.nm (He.eqO_ok (c.fact 67))
theorem f_isinstance (c : Env K mg) : mg "isinstance" = none := c.nm (He.eqO_ok (c.fact 68))
theorem f_int (c : Env K mg) : mg "int" = none := c.nm (He.eqO_ok (c.fact 69))
theorem f_bool (c : Env K mg) : mg "bool" = none := c.nm (He.eqO_ok (c.fact 70))
theorem f_all (c : Env K mg) : mg "all" = none := c.nm (He.eqO_ok (c.fact 71))
theorem f_len (c : Env K mg) : mg "len" = none := c.nm (He.eqO_ok (c.fact 72))
theorem f_max (c : Env K mg) : mg "max" = none := c.nm (He.eqO_ok (c.fact 73))
theorem f_min (c : Env K mg) : mg "min" = none := c.nm (He.eqO_ok (c.fact 74))
theorem f_str (c : Env K mg) : mg "str" = none := c.nm (He.eqO_ok (c.fact 75))
theorem f_range (c : Env K mg) : mg "range" = none := c.nm (He.eqO_ok (c.fact 76))
theorem f_list (c : Env K mg) : mg "list" = none := c.nm (He.eqO_ok (c.fact 77))
theorem f_sorted (c : Env K mg) : mg "sorted" = none := c.nm (He.eqO_ok (c.fact 78))
theorem f_set (c : Env K mg) : mg "set" = none := c.nm (He.eqO_ok (c.fact 79))
theorem f_repr (c : Env K mg) : mg "repr" = none := c.nm (He.eqO_ok (c.fact 80))
theorem f_enumerate (c : Env K mg) : mg "enumerate" = none := c.nm (He.eqO_ok (c.fact 81))
theorem f_tuple (c : Env K mg) : mg "tuple" = none := c.nm (He.eqO_ok (c.fact 82))
theorem f_abs (c : Env K mg) : mg "abs" = none := c.nm (He.eqO_ok (c.fact 83))
theorem f_NotImplemented (c : Env K mg) : mg "NotImplemented" = none := c.nm (He.eqO_ok (c.fact 84))
end
end TT

-- RU
set_option Elab.async false
set_option linter.all false
set_option maxRecDepth 100000
set_option maxHeartbeats 4000000
namespace TT
open PySem PySem.Spec PyProof.Rows L2
section
variable {K : Fg} {mg : Str → Option Value}
theorem nm_int (c : Env K mg) {x : Str} {i : Int} (h : (He.Fa.int x i).ok K = true) : ∃ t, mg x = some (.int i t) := by
  have h : (match PySem.W.nsIn K mainGlobals x with | some (some (.int n _)) => decide (n = i) | _ => false) = true := h
  rcases e : PySem.W.nsIn K mainGlobals x with _ | v
  · rw [e] at h; simp at h
  · rw [e] at h
    rcases v with _ | v
    · simp at h
    · cases v
      case int j t =>
        have ej : j = i := of_decide_eq_true h
        subst ej
        exact ⟨t, c.nm e⟩
      all_goals simp at h
theorem nm_str (c : Env K mg) {x z : Str} (h : (He.Fa.str x z).ok K = true) : ∃ t, mg x = some (.str z t) := by
  have h : (match PySem.W.nsIn K mainGlobals x with | some (some (.str n _)) => decide (n = z) | _ => false) = true := h
  rcases e : PySem.W.nsIn K mainGlobals x with _ | v
  · rw [e] at h; simp at h
  · rw [e] at h
    rcases v with _ | v
    · simp at h
    · cases v
      case str j t =>
        have ej : j = z := of_decide_eq_true h
        subst ej
        exact ⟨t, c.nm e⟩
      all_goals simp at h
theorem eO_ok {a b : Option (Option Value)} (h : eO a b = true) : a = b := of_decide_eq_true h
theorem prop_ok {C m : Str} (h : tProp C m K = true) : PropOf K (gA C K) m (pO C m K) (pA C m K) := by
  obtain ⟨h1, h⟩ := He.ba h
  obtain ⟨h2, h⟩ := He.ba h
  obtain ⟨h3, h4⟩ := He.ba h
  refine ⟨eO_ok h1, eO_ok h2, of_decide_eq_true h3, ?_⟩
  unfold pA
  rcases e : PySem.W.recIn K (pO C m K) "property" with _ | l
  · rw [e] at h4; simp at h4
  · rw [e] at h4
    rcases l with _ | ⟨v, r⟩
    · simp at h4
    · cases v
      case ref g => exact ⟨r, rfl⟩
      all_goals simp at h4
theorem slc_ok {C : Str} (h : tSlC C K = true) : SlX.SCls K (gA C K) := by
  obtain ⟨h1, h⟩ := He.ba h
  obtain ⟨h2, h⟩ := He.ba h
  obtain ⟨h3, h4⟩ := He.ba h
  exact ⟨h1, h2, h3, eO_ok h4⟩
theorem slot_ok {C m : Str} {i : Nat} (h : tSlot C m i K = true) (hi : i < 1000) : SlX.Slot1 K (gA C K) m (pO C m K) i := by
  obtain ⟨h1, h⟩ := He.ba h
  obtain ⟨h2, h⟩ := He.ba h
  obtain ⟨h3, h⟩ := He.ba h
  obtain ⟨h4, h5⟩ := He.ba h
  exact ⟨eO_ok h1, eO_ok h2, of_decide_eq_true h3, of_decide_eq_true h4, of_decide_eq_true h5, hi⟩
theorem ins_ok {C : Str} (h : tIns C K = true) : PySem.W.findIn K (.ref (gA C K)) "__class__" = some (some (.builtin "object.__class__")) ∧
    PySem.W.specialIn K (.builtin "object.__class__") "__get__" = some (some (.builtin "getset_descriptor.__get__")) ∧
    PySem.W.takesIn K (.builtin "object.__class__") = some true ∧ PySem.W.mroIn K (gA C K) (.type "object") = some true ∧
    PySem.W.kitOne K (.ref (gA C K)) (.ref (gA C K)) = some true := by
  obtain ⟨h1, h⟩ := He.ba h
  obtain ⟨h2, h⟩ := He.ba h
  obtain ⟨h3, h⟩ := He.ba h
  obtain ⟨h4, h5⟩ := He.ba h
  exact ⟨eO_ok h1, eO_ok h2, of_decide_eq_true h3, of_decide_eq_true h4, of_decide_eq_true h5⟩
theorem i_END (c : Env K mg) : ∃ t, mg "END" = some (.int 1000000000000000000000000000000 t) := nm_int c (c.fact 85)
theorem i_WORDS (c : Env K mg) : ∃ t, mg "WORDS" = some (.int 5 t) := nm_int c (c.fact 86)
theorem i_MOST_WORDS (c : Env K mg) : ∃ t, mg "MOST_WORDS" = some (.int 6 t) := nm_int c (c.fact 87)
theorem i_MOST (c : Env K mg) : ∃ t, mg "MOST" = some (.int 12 t) := nm_int c (c.fact 88)
theorem i_PAIR (c : Env K mg) : ∃ t, mg "PAIR" = some (.int 2 t) := nm_int c (c.fact 89)
theorem i_MOST_HEARD (c : Env K mg) : ∃ t, mg "MOST_HEARD" = some (.int 99 t) := nm_int c (c.fact 90)
theorem z_FIGURES (c : Env K mg) : ∃ t, mg "FIGURES" = some (.str "0123456789" t) := nm_str c (c.fact 91)
theorem z_BLANK (c : Env K mg) : ∃ t, mg "BLANK" = some (.str " " t) := nm_str c (c.fact 92)
theorem z_FEED (c : Env K mg) : ∃ t, mg "FEED" = some (.str "\n" t) := nm_str c (c.fact 93)
theorem z_UP (c : Env K mg) : ∃ t, mg "UP" = some (.str "up" t) := nm_str c (c.fact 94)
theorem z_DOWN (c : Env K mg) : ∃ t, mg "DOWN" = some (.str "down" t) := nm_str c (c.fact 95)
theorem z_BACK_ties (c : Env K mg) : ∃ t, mg "BACK_ties" = some (.str "back" t) := nm_str c (c.fact 96)
theorem z_TOLD (c : Env K mg) : ∃ t, mg "TOLD" = some (.str "told" t) := nm_str c (c.fact 97)
theorem z_NOTE_ladder (c : Env K mg) : ∃ t, mg "NOTE_ladder" = some (.str "note" t) := nm_str c (c.fact 98)
theorem z_BACK_ladder (c : Env K mg) : ∃ t, mg "BACK_ladder" = some (.str "back" t) := nm_str c (c.fact 99)
theorem z_JOINED (c : Env K mg) : ∃ t, mg "JOINED" = some (.str "joined" t) := nm_str c (c.fact 100)
theorem z_TIMES (c : Env K mg) : ∃ t, mg "TIMES" = some (.str "times" t) := nm_str c (c.fact 101)
theorem z_PART (c : Env K mg) : ∃ t, mg "PART" = some (.str "part" t) := nm_str c (c.fact 102)
theorem z_SIZE (c : Env K mg) : ∃ t, mg "SIZE" = some (.str "size" t) := nm_str c (c.fact 103)
theorem z_TIE (c : Env K mg) : ∃ t, mg "TIE" = some (.str "tie" t) := nm_str c (c.fact 104)
theorem z_NOTE_books (c : Env K mg) : ∃ t, mg "NOTE_books" = some (.str "note" t) := nm_str c (c.fact 105)
theorem c_Tie (c : Env K mg) : Cls K (gA "Tie" K) := He.cls_ok (c.fact 106)
theorem c_Ladder (c : Env K mg) : Cls K (gA "Ladder" K) := He.cls_ok (c.fact 107)
theorem c_Book (c : Env K mg) : Cls K (gA "Book" K) := He.cls_ok (c.fact 108)
theorem n_Tie_own_first (c : Env K mg) : NoAttr K (gA "Tie" K) "own_first" := He.noat_ok (c.fact 109)
theorem n_Tie_own_second (c : Env K mg) : NoAttr K (gA "Tie" K) "own_second" := He.noat_ok (c.fact 110)
theorem n_Tie_own_length (c : Env K mg) : NoAttr K (gA "Tie" K) "own_length" := He.noat_ok (c.fact 111)
theorem n_Tie_own_amount (c : Env K mg) : NoAttr K (gA "Tie" K) "own_amount" := He.noat_ok (c.fact 112)
theorem n_Tie_own_down (c : Env K mg) : NoAttr K (gA "Tie" K) "own_down" := He.noat_ok (c.fact 113)
theorem n_Tie_own_backward (c : Env K mg) : NoAttr K (gA "Tie" K) "own_backward" := He.noat_ok (c.fact 114)
theorem n_Ladder_cuts (c : Env K mg) : NoAttr K (gA "Ladder" K) "cuts" := He.noat_ok (c.fact 115)
theorem n_Ladder_parts (c : Env K mg) : NoAttr K (gA "Ladder" K) "parts" := He.noat_ok (c.fact 116)
theorem n_Ladder_broken (c : Env K mg) : NoAttr K (gA "Ladder" K) "broken" := He.noat_ok (c.fact 117)
theorem n_Book_own_size (c : Env K mg) : NoAttr K (gA "Book" K) "own_size" := He.noat_ok (c.fact 118)
theorem n_Book_own_ties (c : Env K mg) : NoAttr K (gA "Book" K) "own_ties" := He.noat_ok (c.fact 119)
theorem n_Book_own_notes (c : Env K mg) : NoAttr K (gA "Book" K) "own_notes" := He.noat_ok (c.fact 120)
theorem n_Book_own_text (c : Env K mg) : NoAttr K (gA "Book" K) "own_text" := He.noat_ok (c.fact 121)
theorem n_Book_own_ladder (c : Env K mg) : NoAttr K (gA "Book" K) "own_ladder" := He.noat_ok (c.fact 122)
theorem k_Tie (c : Env K mg) : Mk K (gA "Tie" K) (mA "Tie" "__init__" K) := He.mkr_ok (c.fact 123)
theorem k_Ladder (c : Env K mg) : Mk K (gA "Ladder" K) (mA "Ladder" "__init__" K) := He.mkr_ok (c.fact 124)
theorem k_Book (c : Env K mg) : Mk K (gA "Book" K) (mA "Book" "__init__" K) := He.mkr_ok (c.fact 125)
theorem k_Link (c : Env K mg) : Mk K (gA "Link" K) (mA "Link" "__init__" K) := He.mkr_ok (c.fact 126)
theorem m_Tie_partner (c : Env K mg) : Meth K (gA "Tie" K) "partner" (mA "Tie" "partner" K) := He.meth_ok (c.fact 127)
theorem m_Tie_led (c : Env K mg) : Meth K (gA "Tie" K) "led" (mA "Tie" "led" K) := He.meth_ok (c.fact 128)
theorem m_Tie_between (c : Env K mg) : Meth K (gA "Tie" K) "between" (mA "Tie" "between" K) := He.meth_ok (c.fact 129)
theorem m_Tie_part (c : Env K mg) : Meth K (gA "Tie" K) "part" (mA "Tie" "part" K) := He.meth_ok (c.fact 130)
theorem m_Tie_places_into (c : Env K mg) : Meth K (gA "Tie" K) "places_into" (mA "Tie" "places_into" K) := He.meth_ok (c.fact 131)
theorem m_Tie_led_often (c : Env K mg) : Meth K (gA "Tie" K) "led_often" (mA "Tie" "led_often" K) := He.meth_ok (c.fact 132)
theorem m_Ladder_walk (c : Env K mg) : Meth K (gA "Ladder" K) "walk" (mA "Ladder" "walk" K) := He.meth_ok (c.fact 133)
theorem m_Ladder_reading (c : Env K mg) : Meth K (gA "Ladder" K) "reading" (mA "Ladder" "reading" K) := He.meth_ok (c.fact 134)
theorem p_Tie_first (c : Env K mg) : PropOf K (gA "Tie" K) "first" (pO "Tie" "first" K) (pA "Tie" "first" K) := prop_ok (c.fact 135)
theorem p_Tie_second (c : Env K mg) : PropOf K (gA "Tie" K) "second" (pO "Tie" "second" K) (pA "Tie" "second" K) := prop_ok (c.fact 136)
theorem p_Tie_length (c : Env K mg) : PropOf K (gA "Tie" K) "length" (pO "Tie" "length" K) (pA "Tie" "length" K) := prop_ok (c.fact 137)
theorem p_Tie_amount (c : Env K mg) : PropOf K (gA "Tie" K) "amount" (pO "Tie" "amount" K) (pA "Tie" "amount" K) := prop_ok (c.fact 138)
theorem p_Tie_down (c : Env K mg) : PropOf K (gA "Tie" K) "down" (pO "Tie" "down" K) (pA "Tie" "down" K) := prop_ok (c.fact 139)
theorem p_Tie_backward (c : Env K mg) : PropOf K (gA "Tie" K) "backward" (pO "Tie" "backward" K) (pA "Tie" "backward" K) := prop_ok (c.fact 140)
theorem p_Tie_shift (c : Env K mg) : PropOf K (gA "Tie" K) "shift" (pO "Tie" "shift" K) (pA "Tie" "shift" K) := prop_ok (c.fact 141)
theorem p_Tie_turn (c : Env K mg) : PropOf K (gA "Tie" K) "turn" (pO "Tie" "turn" K) (pA "Tie" "turn" K) := prop_ok (c.fact 142)
theorem p_Link_behind (c : Env K mg) : PropOf K (gA "Link" K) "behind" (pO "Link" "behind" K) (pA "Link" "behind" K) := prop_ok (c.fact 143)
theorem p_Book_size (c : Env K mg) : PropOf K (gA "Book" K) "size" (pO "Book" "size" K) (pA "Book" "size" K) := prop_ok (c.fact 144)
theorem p_Book_ties (c : Env K mg) : PropOf K (gA "Book" K) "ties" (pO "Book" "ties" K) (pA "Book" "ties" K) := prop_ok (c.fact 145)
theorem p_Book_notes (c : Env K mg) : PropOf K (gA "Book" K) "notes" (pO "Book" "notes" K) (pA "Book" "notes" K) := prop_ok (c.fact 146)
theorem sl_Link (c : Env K mg) : SlX.SCls K (gA "Link" K) := slc_ok (c.fact 147)
theorem sl_parents (c : Env K mg) : SlX.Slot1 K (gA "Link" K) "parents" (pO "Link" "parents" K) 0 := slot_ok (c.fact 148) (by decide)
theorem sl_reason (c : Env K mg) : SlX.Slot1 K (gA "Link" K) "reason" (pO "Link" "reason" K) 1 := slot_ok (c.fact 149) (by decide)
theorem sl_tie (c : Env K mg) : SlX.Slot1 K (gA "Link" K) "tie" (pO "Link" "tie" K) 2 := slot_ok (c.fact 150) (by decide)
theorem ins_Tie (c : Env K mg) : tIns "Tie" K = true := c.fact 151
theorem o_invert (c : Env K mg) : tOwn "Tie" "__invert__" K = true := c.fact 152
theorem o_rshift (c : Env K mg) : tOwn "Tie" "__rshift__" K = true := c.fact 153
theorem o_mul (c : Env K mg) : tOwn "Tie" "__mul__" K = true := c.fact 154
theorem o_mulI (c : Env K mg) : tMulI "Tie" K = true := c.fact 155
theorem fd_is_integer (c : Env K mg) : ∃ fd, FunD K d_is_integer.name d_is_integer.qual d_is_integer.params d_is_integer.body d_is_integer.scope (d_is_integer.dv K) (d_is_integer.kw K) (d_is_integer.at_ K) fd := c.df 0
theorem fd_number_told (c : Env K mg) : ∃ fd, FunD K d_number_told.name d_number_told.qual d_number_told.params d_number_told.body d_number_told.scope (d_number_told.dv K) (d_number_told.kw K) (d_number_told.at_ K) fd := c.df 1
theorem fd_numbers_told (c : Env K mg) : ∃ fd, FunD K d_numbers_told.name d_numbers_told.qual d_numbers_told.params d_numbers_told.body d_numbers_told.scope (d_numbers_told.dv K) (d_numbers_told.kw K) (d_numbers_told.at_ K) fd := c.df 2
theorem fd_line_parts (c : Env K mg) : ∃ fd, FunD K d_line_parts.name d_line_parts.qual d_line_parts.params d_line_parts.body d_line_parts.scope (d_line_parts.dv K) (d_line_parts.kw K) (d_line_parts.at_ K) fd := c.df 3
theorem fd_Tie_init (c : Env K mg) : ∃ fd, FunD K d_Tie_init.name d_Tie_init.qual d_Tie_init.params d_Tie_init.body d_Tie_init.scope (d_Tie_init.dv K) (d_Tie_init.kw K) (d_Tie_init.at_ K) fd := c.df 4
theorem fd_Tie_first (c : Env K mg) : ∃ fd, FunD K d_Tie_first.name d_Tie_first.qual d_Tie_first.params d_Tie_first.body d_Tie_first.scope (d_Tie_first.dv K) (d_Tie_first.kw K) (d_Tie_first.at_ K) fd := c.df 5
theorem fd_Tie_second (c : Env K mg) : ∃ fd, FunD K d_Tie_second.name d_Tie_second.qual d_Tie_second.params d_Tie_second.body d_Tie_second.scope (d_Tie_second.dv K) (d_Tie_second.kw K) (d_Tie_second.at_ K) fd := c.df 6
theorem fd_Tie_length (c : Env K mg) : ∃ fd, FunD K d_Tie_length.name d_Tie_length.qual d_Tie_length.params d_Tie_length.body d_Tie_length.scope (d_Tie_length.dv K) (d_Tie_length.kw K) (d_Tie_length.at_ K) fd := c.df 7
theorem fd_Tie_amount (c : Env K mg) : ∃ fd, FunD K d_Tie_amount.name d_Tie_amount.qual d_Tie_amount.params d_Tie_amount.body d_Tie_amount.scope (d_Tie_amount.dv K) (d_Tie_amount.kw K) (d_Tie_amount.at_ K) fd := c.df 8
theorem fd_Tie_down (c : Env K mg) : ∃ fd, FunD K d_Tie_down.name d_Tie_down.qual d_Tie_down.params d_Tie_down.body d_Tie_down.scope (d_Tie_down.dv K) (d_Tie_down.kw K) (d_Tie_down.at_ K) fd := c.df 9
theorem fd_Tie_backward (c : Env K mg) : ∃ fd, FunD K d_Tie_backward.name d_Tie_backward.qual d_Tie_backward.params d_Tie_backward.body d_Tie_backward.scope (d_Tie_backward.dv K) (d_Tie_backward.kw K) (d_Tie_backward.at_ K) fd := c.df 10
theorem fd_Tie_shift (c : Env K mg) : ∃ fd, FunD K d_Tie_shift.name d_Tie_shift.qual d_Tie_shift.params d_Tie_shift.body d_Tie_shift.scope (d_Tie_shift.dv K) (d_Tie_shift.kw K) (d_Tie_shift.at_ K) fd := c.df 11
theorem fd_Tie_turn (c : Env K mg) : ∃ fd, FunD K d_Tie_turn.name d_Tie_turn.qual d_Tie_turn.params d_Tie_turn.body d_Tie_turn.scope (d_Tie_turn.dv K) (d_Tie_turn.kw K) (d_Tie_turn.at_ K) fd := c.df 12
theorem fd_Tie_partner (c : Env K mg) : ∃ fd, FunD K d_Tie_partner.name d_Tie_partner.qual d_Tie_partner.params d_Tie_partner.body d_Tie_partner.scope (d_Tie_partner.dv K) (d_Tie_partner.kw K) (d_Tie_partner.at_ K) fd := c.df 13
theorem fd_Tie_led (c : Env K mg) : ∃ fd, FunD K d_Tie_led.name d_Tie_led.qual d_Tie_led.params d_Tie_led.body d_Tie_led.scope (d_Tie_led.dv K) (d_Tie_led.kw K) (d_Tie_led.at_ K) fd := c.df 14
theorem fd_Tie_between (c : Env K mg) : ∃ fd, FunD K d_Tie_between.name d_Tie_between.qual d_Tie_between.params d_Tie_between.body d_Tie_between.scope (d_Tie_between.dv K) (d_Tie_between.kw K) (d_Tie_between.at_ K) fd := c.df 15
theorem fd_Tie_part (c : Env K mg) : ∃ fd, FunD K d_Tie_part.name d_Tie_part.qual d_Tie_part.params d_Tie_part.body d_Tie_part.scope (d_Tie_part.dv K) (d_Tie_part.kw K) (d_Tie_part.at_ K) fd := c.df 16
theorem fd_Tie_invert (c : Env K mg) : ∃ fd, FunD K d_Tie_invert.name d_Tie_invert.qual d_Tie_invert.params d_Tie_invert.body d_Tie_invert.scope (d_Tie_invert.dv K) (d_Tie_invert.kw K) (d_Tie_invert.at_ K) fd := c.df 17
theorem fd_Tie_places_into (c : Env K mg) : ∃ fd, FunD K d_Tie_places_into.name d_Tie_places_into.qual d_Tie_places_into.params d_Tie_places_into.body d_Tie_places_into.scope (d_Tie_places_into.dv K) (d_Tie_places_into.kw K) (d_Tie_places_into.at_ K) fd := c.df 18
theorem fd_Tie_rshift (c : Env K mg) : ∃ fd, FunD K d_Tie_rshift.name d_Tie_rshift.qual d_Tie_rshift.params d_Tie_rshift.body d_Tie_rshift.scope (d_Tie_rshift.dv K) (d_Tie_rshift.kw K) (d_Tie_rshift.at_ K) fd := c.df 19
theorem fd_Tie_led_often (c : Env K mg) : ∃ fd, FunD K d_Tie_led_often.name d_Tie_led_often.qual d_Tie_led_often.params d_Tie_led_often.body d_Tie_led_often.scope (d_Tie_led_often.dv K) (d_Tie_led_often.kw K) (d_Tie_led_often.at_ K) fd := c.df 20
theorem fd_Tie_mul (c : Env K mg) : ∃ fd, FunD K d_Tie_mul.name d_Tie_mul.qual d_Tie_mul.params d_Tie_mul.body d_Tie_mul.scope (d_Tie_mul.dv K) (d_Tie_mul.kw K) (d_Tie_mul.at_ K) fd := c.df 21
theorem fd_tie_told (c : Env K mg) : ∃ fd, FunD K d_tie_told.name d_tie_told.qual d_tie_told.params d_tie_told.body d_tie_told.scope (d_tie_told.dv K) (d_tie_told.kw K) (d_tie_told.at_ K) fd := c.df 22
theorem fd_is_tie_within (c : Env K mg) : ∃ fd, FunD K d_is_tie_within.name d_is_tie_within.qual d_is_tie_within.params d_is_tie_within.body d_is_tie_within.scope (d_is_tie_within.dv K) (d_is_tie_within.kw K) (d_is_tie_within.at_ K) fd := c.df 23
theorem fd_Link_init (c : Env K mg) : ∃ fd, FunD K d_Link_init.name d_Link_init.qual d_Link_init.params d_Link_init.body d_Link_init.scope (d_Link_init.dv K) (d_Link_init.kw K) (d_Link_init.at_ K) fd := c.df 24
theorem fd_Link_behind (c : Env K mg) : ∃ fd, FunD K d_Link_behind.name d_Link_behind.qual d_Link_behind.params d_Link_behind.body d_Link_behind.scope (d_Link_behind.dv K) (d_Link_behind.kw K) (d_Link_behind.at_ K) fd := c.df 25
theorem fd_back (c : Env K mg) : ∃ fd, FunD K d_back.name d_back.qual d_back.params d_back.body d_back.scope (d_back.dv K) (d_back.kw K) (d_back.at_ K) fd := c.df 26
theorem fd_joined (c : Env K mg) : ∃ fd, FunD K d_joined.name d_joined.qual d_joined.params d_joined.body d_joined.scope (d_joined.dv K) (d_joined.kw K) (d_joined.at_ K) fd := c.df 27
theorem fd_times (c : Env K mg) : ∃ fd, FunD K d_times.name d_times.qual d_times.params d_times.body d_times.scope (d_times.dv K) (d_times.kw K) (d_times.at_ K) fd := c.df 28
theorem fd_part (c : Env K mg) : ∃ fd, FunD K d_part.name d_part.qual d_part.params d_part.body d_part.scope (d_part.dv K) (d_part.kw K) (d_part.at_ K) fd := c.df 29
theorem fd_is_one_part (c : Env K mg) : ∃ fd, FunD K d_is_one_part.name d_is_one_part.qual d_is_one_part.params d_is_one_part.body d_is_one_part.scope (d_is_one_part.dv K) (d_is_one_part.kw K) (d_is_one_part.at_ K) fd := c.df 30
theorem fd_cannot_be (c : Env K mg) : ∃ fd, FunD K d_cannot_be.name d_cannot_be.qual d_cannot_be.params d_cannot_be.body d_cannot_be.scope (d_cannot_be.dv K) (d_cannot_be.kw K) (d_cannot_be.at_ K) fd := c.df 31
theorem fd_is_pin (c : Env K mg) : ∃ fd, FunD K d_is_pin.name d_is_pin.qual d_is_pin.params d_is_pin.body d_is_pin.scope (d_is_pin.dv K) (d_is_pin.kw K) (d_is_pin.at_ K) fd := c.df 32
theorem fd_evened (c : Env K mg) : ∃ fd, FunD K d_evened.name d_evened.qual d_evened.params d_evened.body d_evened.scope (d_evened.dv K) (d_evened.kw K) (d_evened.at_ K) fd := c.df 33
theorem fd_rounds (c : Env K mg) : ∃ fd, FunD K d_rounds.name d_rounds.qual d_rounds.params d_rounds.body d_rounds.scope (d_rounds.dv K) (d_rounds.kw K) (d_rounds.at_ K) fd := c.df 34
theorem fd_way_to (c : Env K mg) : ∃ fd, FunD K d_way_to.name d_way_to.qual d_way_to.params d_way_to.body d_way_to.scope (d_way_to.dv K) (d_way_to.kw K) (d_way_to.at_ K) fd := c.df 35
theorem fd_read_by_pin (c : Env K mg) : ∃ fd, FunD K d_read_by_pin.name d_read_by_pin.qual d_read_by_pin.params d_read_by_pin.body d_read_by_pin.scope (d_read_by_pin.dv K) (d_read_by_pin.kw K) (d_read_by_pin.at_ K) fd := c.df 36
theorem fd_read_by_link (c : Env K mg) : ∃ fd, FunD K d_read_by_link.name d_read_by_link.qual d_read_by_link.params d_read_by_link.body d_read_by_link.scope (d_read_by_link.dv K) (d_read_by_link.kw K) (d_read_by_link.at_ K) fd := c.df 37
theorem fd_read_through (c : Env K mg) : ∃ fd, FunD K d_read_through.name d_read_through.qual d_read_through.params d_read_through.body d_read_through.scope (d_read_through.dv K) (d_read_through.kw K) (d_read_through.at_ K) fd := c.df 38
theorem fd_shortened (c : Env K mg) : ∃ fd, FunD K d_shortened.name d_shortened.qual d_shortened.params d_shortened.body d_shortened.scope (d_shortened.dv K) (d_shortened.kw K) (d_shortened.at_ K) fd := c.df 39
theorem fd_all_evened (c : Env K mg) : ∃ fd, FunD K d_all_evened.name d_all_evened.qual d_all_evened.params d_all_evened.body d_all_evened.scope (d_all_evened.dv K) (d_all_evened.kw K) (d_all_evened.at_ K) fd := c.df 40
theorem fd_end_of (c : Env K mg) : ∃ fd, FunD K d_end_of.name d_end_of.qual d_end_of.params d_end_of.body d_end_of.scope (d_end_of.dv K) (d_end_of.kw K) (d_end_of.at_ K) fd := c.df 41
theorem fd_cut_off (c : Env K mg) : ∃ fd, FunD K d_cut_off.name d_cut_off.qual d_cut_off.params d_cut_off.body d_cut_off.scope (d_cut_off.dv K) (d_cut_off.kw K) (d_cut_off.at_ K) fd := c.df 42
theorem fd_rows_by (c : Env K mg) : ∃ fd, FunD K d_rows_by.name d_rows_by.qual d_rows_by.params d_rows_by.body d_rows_by.scope (d_rows_by.dv K) (d_rows_by.kw K) (d_rows_by.at_ K) fd := c.df 43
theorem fd_Ladder_init (c : Env K mg) : ∃ fd, FunD K d_Ladder_init.name d_Ladder_init.qual d_Ladder_init.params d_Ladder_init.body d_Ladder_init.scope (d_Ladder_init.dv K) (d_Ladder_init.kw K) (d_Ladder_init.at_ K) fd := c.df 44
theorem fd_Ladder_walk (c : Env K mg) : ∃ fd, FunD K d_Ladder_walk.name d_Ladder_walk.qual d_Ladder_walk.params d_Ladder_walk.body d_Ladder_walk.scope (d_Ladder_walk.dv K) (d_Ladder_walk.kw K) (d_Ladder_walk.at_ K) fd := c.df 45
theorem fd_Ladder_reading (c : Env K mg) : ∃ fd, FunD K d_Ladder_reading.name d_Ladder_reading.qual d_Ladder_reading.params d_Ladder_reading.body d_Ladder_reading.scope (d_Ladder_reading.dv K) (d_Ladder_reading.kw K) (d_Ladder_reading.at_ K) fd := c.df 46
theorem fd_links_of (c : Env K mg) : ∃ fd, FunD K d_links_of.name d_links_of.qual d_links_of.params d_links_of.body d_links_of.scope (d_links_of.dv K) (d_links_of.kw K) (d_links_of.at_ K) fd := c.df 47
theorem fd_ladder_of (c : Env K mg) : ∃ fd, FunD K d_ladder_of.name d_ladder_of.qual d_ladder_of.params d_ladder_of.body d_ladder_of.scope (d_ladder_of.dv K) (d_ladder_of.kw K) (d_ladder_of.at_ K) fd := c.df 48
theorem fd_check_place (c : Env K mg) : ∃ fd, FunD K d_check_place.name d_check_place.qual d_check_place.params d_check_place.body d_check_place.scope (d_check_place.dv K) (d_check_place.kw K) (d_check_place.at_ K) fd := c.df 49
theorem fd_kept_ladder (c : Env K mg) : ∃ fd, FunD K d_kept_ladder.name d_kept_ladder.qual d_kept_ladder.params d_kept_ladder.body d_kept_ladder.scope (d_kept_ladder.dv K) (d_kept_ladder.kw K) (d_kept_ladder.at_ K) fd := c.df 50
theorem fd_hangs (c : Env K mg) : ∃ fd, FunD K d_hangs.name d_hangs.qual d_hangs.params d_hangs.body d_hangs.scope (d_hangs.dv K) (d_hangs.kw K) (d_hangs.at_ K) fd := c.df 51
theorem fd_heard (c : Env K mg) : ∃ fd, FunD K d_heard.name d_heard.qual d_heard.params d_heard.body d_heard.scope (d_heard.dv K) (d_heard.kw K) (d_heard.at_ K) fd := c.df 52
theorem fd_size_told (c : Env K mg) : ∃ fd, FunD K d_size_told.name d_size_told.qual d_size_told.params d_size_told.body d_size_told.scope (d_size_told.dv K) (d_size_told.kw K) (d_size_told.at_ K) fd := c.df 53
theorem fd_tie_in (c : Env K mg) : ∃ fd, FunD K d_tie_in.name d_tie_in.qual d_tie_in.params d_tie_in.body d_tie_in.scope (d_tie_in.dv K) (d_tie_in.kw K) (d_tie_in.at_ K) fd := c.df 54
theorem fd_note_in (c : Env K mg) : ∃ fd, FunD K d_note_in.name d_note_in.qual d_note_in.params d_note_in.body d_note_in.scope (d_note_in.dv K) (d_note_in.kw K) (d_note_in.at_ K) fd := c.df 55
theorem fd_read_book (c : Env K mg) : ∃ fd, FunD K d_read_book.name d_read_book.qual d_read_book.params d_read_book.body d_read_book.scope (d_read_book.dv K) (d_read_book.kw K) (d_read_book.at_ K) fd := c.df 56
theorem fd_Book_init (c : Env K mg) : ∃ fd, FunD K d_Book_init.name d_Book_init.qual d_Book_init.params d_Book_init.body d_Book_init.scope (d_Book_init.dv K) (d_Book_init.kw K) (d_Book_init.at_ K) fd := c.df 57
theorem fd_Book_size (c : Env K mg) : ∃ fd, FunD K d_Book_size.name d_Book_size.qual d_Book_size.params d_Book_size.body d_Book_size.scope (d_Book_size.dv K) (d_Book_size.kw K) (d_Book_size.at_ K) fd := c.df 58
theorem fd_Book_ties (c : Env K mg) : ∃ fd, FunD K d_Book_ties.name d_Book_ties.qual d_Book_ties.params d_Book_ties.body d_Book_ties.scope (d_Book_ties.dv K) (d_Book_ties.kw K) (d_Book_ties.at_ K) fd := c.df 59
theorem fd_Book_notes (c : Env K mg) : ∃ fd, FunD K d_Book_notes.name d_Book_notes.qual d_Book_notes.params d_Book_notes.body d_Book_notes.scope (d_Book_notes.dv K) (d_Book_notes.kw K) (d_Book_notes.at_ K) fd := c.df 60
theorem fd__law_pot (c : Env K mg) : ∃ fd, FunD K d__law_pot.name d__law_pot.qual d__law_pot.params d__law_pot.body d__law_pot.scope (d__law_pot.dv K) (d__law_pot.kw K) (d__law_pot.at_ K) fd := c.df 61
theorem fd__law_take (c : Env K mg) : ∃ fd, FunD K d__law_take.name d__law_take.qual d__law_take.params d__law_take.body d__law_take.scope (d__law_take.dv K) (d__law_take.kw K) (d__law_take.at_ K) fd := c.df 62
theorem fd__law_far (c : Env K mg) : ∃ fd, FunD K d__law_far.name d__law_far.qual d__law_far.params d__law_far.body d__law_far.scope (d__law_far.dv K) (d__law_far.kw K) (d__law_far.at_ K) fd := c.df 63
theorem fd__law_of (c : Env K mg) : ∃ fd, FunD K d__law_of.name d__law_of.qual d__law_of.params d__law_of.body d__law_of.scope (d__law_of.dv K) (d__law_of.kw K) (d__law_of.at_ K) fd := c.df 64
theorem fd__law_cells (c : Env K mg) : ∃ fd, FunD K d__law_cells.name d__law_cells.qual d__law_cells.params d__law_cells.body d__law_cells.scope (d__law_cells.dv K) (d__law_cells.kw K) (d__law_cells.at_ K) fd := c.df 65
theorem fd__law_amount (c : Env K mg) : ∃ fd, FunD K d__law_amount.name d__law_amount.qual d__law_amount.params d__law_amount.body d__law_amount.scope (d__law_amount.dv K) (d__law_amount.kw K) (d__law_amount.at_ K) fd := c.df 66
theorem fd__law_tie_text (c : Env K mg) : ∃ fd, FunD K d__law_tie_text.name d__law_tie_text.qual d__law_tie_text.params d__law_tie_text.body d__law_tie_text.scope (d__law_tie_text.dv K) (d__law_tie_text.kw K) (d__law_tie_text.at_ K) fd := c.df 67
theorem fd__law_book_text (c : Env K mg) : ∃ fd, FunD K d__law_book_text.name d__law_book_text.qual d__law_book_text.params d__law_book_text.body d__law_book_text.scope (d__law_book_text.dv K) (d__law_book_text.kw K) (d__law_book_text.at_ K) fd := c.df 68
theorem fd__law_partner (c : Env K mg) : ∃ fd, FunD K d__law_partner.name d__law_partner.qual d__law_partner.params d__law_partner.body d__law_partner.scope (d__law_partner.dv K) (d__law_partner.kw K) (d__law_partner.at_ K) fd := c.df 69
theorem fd__law_pairs (c : Env K mg) : ∃ fd, FunD K d__law_pairs.name d__law_pairs.qual d__law_pairs.params d__law_pairs.body d__law_pairs.scope (d__law_pairs.dv K) (d__law_pairs.kw K) (d__law_pairs.at_ K) fd := c.df 70
theorem fd__law_webs (c : Env K mg) : ∃ fd, FunD K d__law_webs.name d__law_webs.qual d__law_webs.params d__law_webs.body d__law_webs.scope (d__law_webs.dv K) (d__law_webs.kw K) (d__law_webs.at_ K) fd := c.df 71
theorem fd__law_web_from (c : Env K mg) : ∃ fd, FunD K d__law_web_from.name d__law_web_from.qual d__law_web_from.params d__law_web_from.body d__law_web_from.scope (d__law_web_from.dv K) (d__law_web_from.kw K) (d__law_web_from.at_ K) fd := c.df 72
theorem fd__law_settled (c : Env K mg) : ∃ fd, FunD K d__law_settled.name d__law_settled.qual d__law_settled.params d__law_settled.body d__law_settled.scope (d__law_settled.dv K) (d__law_settled.kw K) (d__law_settled.at_ K) fd := c.df 73
theorem fd__law_found (c : Env K mg) : ∃ fd, FunD K d__law_found.name d__law_found.qual d__law_found.params d__law_found.body d__law_found.scope (d__law_found.dv K) (d__law_found.kw K) (d__law_found.at_ K) fd := c.df 74
theorem fd__law_at (c : Env K mg) : ∃ fd, FunD K d__law_at.name d__law_at.qual d__law_at.params d__law_at.body d__law_at.scope (d__law_at.dv K) (d__law_at.kw K) (d__law_at.at_ K) fd := c.df 75
theorem fd__law_between (c : Env K mg) : ∃ fd, FunD K d__law_between.name d__law_between.qual d__law_between.params d__law_between.body d__law_between.scope (d__law_between.dv K) (d__law_between.kw K) (d__law_between.at_ K) fd := c.df 76
theorem fd__law_beginning (c : Env K mg) : ∃ fd, FunD K d__law_beginning.name d__law_beginning.qual d__law_beginning.params d__law_beginning.body d__law_beginning.scope (d__law_beginning.dv K) (d__law_beginning.kw K) (d__law_beginning.at_ K) fd := c.df 77
theorem fd__law_wanted (c : Env K mg) : ∃ fd, FunD K d__law_wanted.name d__law_wanted.qual d__law_wanted.params d__law_wanted.body d__law_wanted.scope (d__law_wanted.dv K) (d__law_wanted.kw K) (d__law_wanted.at_ K) fd := c.df 78
theorem fd__law_drawn_tie (c : Env K mg) : ∃ fd, FunD K d__law_drawn_tie.name d__law_drawn_tie.qual d__law_drawn_tie.params d__law_drawn_tie.body d__law_drawn_tie.scope (d__law_drawn_tie.dv K) (d__law_drawn_tie.kw K) (d__law_drawn_tie.at_ K) fd := c.df 79
theorem fd__law_fitted (c : Env K mg) : ∃ fd, FunD K d__law_fitted.name d__law_fitted.qual d__law_fitted.params d__law_fitted.body d__law_fitted.scope (d__law_fitted.dv K) (d__law_fitted.kw K) (d__law_fitted.at_ K) fd := c.df 80
theorem fd__law_lore (c : Env K mg) : ∃ fd, FunD K d__law_lore.name d__law_lore.qual d__law_lore.params d__law_lore.body d__law_lore.scope (d__law_lore.dv K) (d__law_lore.kw K) (d__law_lore.at_ K) fd := c.df 81
theorem fd__law_block_rows (c : Env K mg) : ∃ fd, FunD K d__law_block_rows.name d__law_block_rows.qual d__law_block_rows.params d__law_block_rows.body d__law_block_rows.scope (d__law_block_rows.dv K) (d__law_block_rows.kw K) (d__law_block_rows.at_ K) fd := c.df 82
theorem fd__law_blocks (c : Env K mg) : ∃ fd, FunD K d__law_blocks.name d__law_blocks.qual d__law_blocks.params d__law_blocks.body d__law_blocks.scope (d__law_blocks.dv K) (d__law_blocks.kw K) (d__law_blocks.at_ K) fd := c.df 83
theorem fd__law_spot (c : Env K mg) : ∃ fd, FunD K d__law_spot.name d__law_spot.qual d__law_spot.params d__law_spot.body d__law_spot.scope (d__law_spot.dv K) (d__law_spot.kw K) (d__law_spot.at_ K) fd := c.df 84
theorem fd__law_block_found (c : Env K mg) : ∃ fd, FunD K d__law_block_found.name d__law_block_found.qual d__law_block_found.params d__law_block_found.body d__law_block_found.scope (d__law_block_found.dv K) (d__law_block_found.kw K) (d__law_block_found.at_ K) fd := c.df 85
theorem fd__law_offsets (c : Env K mg) : ∃ fd, FunD K d__law_offsets.name d__law_offsets.qual d__law_offsets.params d__law_offsets.body d__law_offsets.scope (d__law_offsets.dv K) (d__law_offsets.kw K) (d__law_offsets.at_ K) fd := c.df 86
theorem fd__law_is_offset_right (c : Env K mg) : ∃ fd, FunD K d__law_is_offset_right.name d__law_is_offset_right.qual d__law_is_offset_right.params d__law_is_offset_right.body d__law_is_offset_right.scope (d__law_is_offset_right.dv K) (d__law_is_offset_right.kw K) (d__law_is_offset_right.at_ K) fd := c.df 87
theorem fd__law_is_window_right (c : Env K mg) : ∃ fd, FunD K d__law_is_window_right.name d__law_is_window_right.qual d__law_is_window_right.params d__law_is_window_right.body d__law_is_window_right.scope (d__law_is_window_right.dv K) (d__law_is_window_right.kw K) (d__law_is_window_right.at_ K) fd := c.df 88
theorem fd__law_right (c : Env K mg) : ∃ fd, FunD K d__law_right.name d__law_right.qual d__law_right.params d__law_right.body d__law_right.scope (d__law_right.dv K) (d__law_right.kw K) (d__law_right.at_ K) fd := c.df 89
theorem fd_law (c : Env K mg) : ∃ fd, FunD K d_law.name d_law.qual d_law.params d_law.body d_law.scope (d_law.dv K) (d_law.kw K) (d_law.at_ K) fd := c.df 90
end
/-! ### promises, calls -/
section
variable {P : Program} {w : World} {K : Fg} {mg : Str → Option Value} {base : Heap}
structure Pm (P : Program) (w : World) (K : Fg) (mg : Str → Option Value) (base : Heap) (k : Nat) (a : Addr) (sp : Sp) : Prop where
  run : FnR P w K mg base CX0 k a sp
  kp : PySem.W.keepIn K (.ref a) = true
theorem Pm.mono {j k : Nat} {a : Addr} {sp : Sp} (F : Pm P w K mg base j a sp) (h : j ≤ k) : Pm P w K mg base k a sp := ⟨F.run.mono h, F.kp⟩
theorem Pm.mk0 {k : Nat} {a : Addr} {sp : Sp} {fd : FuncData} {ps : List Str} (F : FnOk P w K mg base CX0 k a fd ps sp) (hb : Binds K fd ps []) (kp : PySem.W.keepIn K (.ref a) = true) : Pm P w K mg base k a sp :=
  ⟨(F.raw hb .nil).imp fun vs H Q E h => by rw [List.append_nil]; exact h, kp⟩
theorem Pm.mkD {k : Nat} {a : Addr} {sp : Sp} {fd : FuncData} {ps : List Str} {ds : List Value} {dvs : List V} (F : FnOk P w K mg base CX0 k a fd ps sp) (hb : Binds K fd ps ds) (hd : Vals dvs ds) (kp : PySem.W.keepIn K (.ref a) = true) :
    Pm P w K mg base k a (fun vs H Q E => sp (vs ++ dvs) H Q E) := ⟨F.raw hb hd, kp⟩
end
def tCF (sp : Sp) (t : TA) : TE := fun σ H Q => t σ H fun vs H1 => sp vs H1 Q E0
section
variable {X : Cx} {k : Nat} {f : Addr} {sp : Sp} {x : Str} {e : Expr} {es : List Expr} {t : TA} {p pos : Pos}
theorem pe_callF (F : Pm X.prog X.w X.K X.mg X.base k f sp) (hr : Room k X.A) (hg : Gl X x) (hm : X.mg x = some (.ref f)) (ha : PA X (e :: es) t)
    (hdb : (x == ("__debug__" : Str)) = false := by decide) (he : starEach (e :: es) X.env = (false, eval e X.env) :: starEach es X.env := by rfl) (hpl : (backTo pos (starEach es X.env)).any (·.1) = false := by rfl) :
    PE X (.Call (.Name x p) (e :: es) [] pos) (tCF sp t) := by
  refine ⟨fun pins s σ H Q I h => wpAny_Call_Name_kw (ld_glob I hg hm ?_ hdb)⟩
  have z := thn (ha.run pos pins s σ H _ I h) (Q' := fun us s1 => X.K.In s1.heap ∧ wpAny (model X.prog X.w) X.A (call (.ref f) us) (EP X pins σ Q) X.xe s1)
    fun us s1 ⟨vs, H1, I1, r, q⟩ => ⟨I1.kIn, wpAny_call (run_fnR F.run hr pass0 I1 r q)⟩
  exact PySem.W.callWith_K (h₀ := X.base) I.ok.mod.kin F.kp z he hpl
end
/-! ### a property by a positional promise -/
def tPr (C : Addr) (sp : Sp) (ta : TE) : TE := fun σ H Q => ta σ H fun x H1 => ∃ a dx fs, x = .ref a ∧ H1 a = some (.ins C dx fs) ∧ sp [.ref a] H1 Q E0
section
variable {X : Cx} {k : Nat} {C p g : Addr} {f : Str} {sp : Sp} {e : Expr} {pos : Pos} {ta : TE}
theorem pe_propR (he : PE X e ta) (c : Cls X.K C) (hp : PropOf X.K C f p g) (F : FnR X.prog X.w X.K X.mg X.base CX0 k g sp) (hr : Room (k + 1) X.A)
    (hab : attributeBase e f X.env (eval e X.env) = eval e X.env := by rfl) : PE X (.Attribute e f pos) (tPr C sp ta) := by
  refine ⟨fun pins s σ H Q I h => attr_of hab (thn (he.run pins s σ H _ I h) fun u s1 ⟨x, H1, I1, rx, a, dx, fs, ex, ea, q⟩ => ?_)⟩
  subst ex
  cases (show u = Value.ref a from rx)
  obtain ⟨mA, O, _⟩ := ins_get I1.hok ea
  obtain ⟨od, J, _⟩ := O.look
  obtain ⟨rest, hrec⟩ := hp.rec_
  have hc : (PySem.W.clsIn X.K C).isSome = true := by
    obtain ⟨cd, hc, _⟩ := PySem.W.any_some c.hd
    rw [hc] <;> rfl
  have I2 := I1.tok (s1.toks + 1)
  refine PySem.W.get_bind I1.kIn J (PySem.W.plainGet_of (c.get f)).1 (PySem.W.findObj_data hc hp.at_ hp.get hp.tak) (PySem.W.plainGet_of (c.get f)).2
    (wpAny_call (PySem.W.prop_get (s := { s1 with toks := s1.toks + 1 }) I1.kIn hrec (codeAny_mono (F X.A.in1 X.stack _ H1 [.ref a] [.ref a] Q E0 hr.in1 I2.env0.in1 (.cons rfl .nil) q) fun r s' hq => ?_)))
  rcases r with er | fl
  · exact hq.elim
  · cases fl
    case ret u =>
      obtain ⟨v, H', I3, rv, q3⟩ := I2.after hq
      show wpAny _ _ (handedOut u) _ _ _
      rw [PySem.W.handedOut_of (handed_of rv)]
      exact wpAny_pure ⟨v, H', I3, rv, q3⟩
    all_goals exact hq.elim
end
/-! ### the operators of Tie -/
section
variable {X : Cx} {k : Nat} {sp : Sp}
theorem own_ok {K : Fg} {C m : Str} (h : tOwn C m K = true) : PySem.W.selfFirst K (gA C K) = true ∧ PySem.W.findIn K (.ref (gA C K)) m = some (some (.ref (mA C m K))) ∧ PySem.W.isFn K (.ref (mA C m K)) = true := by
  obtain ⟨h1, h⟩ := He.ba h
  obtain ⟨h2, h3⟩ := He.ba h
  exact ⟨h1, eO_ok h2, h3⟩
theorem un_tie (h : tOwn "Tie" "__invert__" X.K = true) (F : FnR X.prog X.w X.K X.mg X.base CX0 k (mA "Tie" "__invert__" X.K) sp) (hr : Room k X.A) :
    UnR X (unaryOp .Invert) (fun x H Q => ∃ a dx fs, x = .ref a ∧ H a = some (.ins (gA "Tie" X.K) dx fs) ∧ sp [x] H Q E0) := by
  intro pins s σ H x v Q I rx h
  obtain ⟨a, dx, fs, rfl, ea, q⟩ := h
  cases (show v = Value.ref a from rx)
  obtain ⟨mA, O, _⟩ := ins_get I.hok ea
  obtain ⟨od, J, _⟩ := O.look
  obtain ⟨m, hF⟩ := I.fr
  obtain ⟨h1, h2, h3⟩ := own_ok h
  exact PySem.W.ksp_inv hF I.ok.mod.kin J h2 h3 (wpAny_call (run_fnR (us := [.ref a]) (vs := [.ref a]) F hr pass0 I (.cons rfl .nil) q))
theorem op_shiftT (h : tOwn "Tie" "__rshift__" X.K = true) (F : FnR X.prog X.w X.K X.mg X.base CX0 k (mA "Tie" "__rshift__" X.K) sp) (hr : Room k X.A) :
    OpR X (binaryOp .RShift) (fun x y H Q => ∃ a dx fs b dy gs, x = .ref a ∧ y = .ref b ∧ H a = some (.ins (gA "Tie" X.K) dx fs) ∧ H b = some (.ins (gA "Tie" X.K) dy gs) ∧ sp [x, y] H Q E0) := by
  intro pins s σ H x y v u Q I rx ry h
  obtain ⟨a, dx, fs, b, dy, gs, rfl, rfl, ea, eb, q⟩ := h
  cases (show v = Value.ref a from rx)
  cases (show u = Value.ref b from ry)
  obtain ⟨mA, O, _⟩ := ins_get I.hok ea
  obtain ⟨od, J, _⟩ := O.look
  obtain ⟨mB, O2, _⟩ := ins_get I.hok eb
  obtain ⟨od2, J2, _⟩ := O2.look
  obtain ⟨m, hF⟩ := I.fr
  obtain ⟨h1, h2, h3⟩ := own_ok h
  refine PySem.W.binop_K (op := .RShift) hF I.ok.mod.kin J J2.type h1 h2 h3 ?_
  refine wpAny_mono (wpAny_call (run_fnR (us := [.ref a, .ref b]) (vs := [.ref a, .ref b]) F hr pass0 I (.cons rfl (.cons rfl .nil)) q)) (fun w s' z => ?_) fun _ _ x => x
  obtain ⟨z', H', I', rz, qz⟩ := z
  exact SlX.cmpback rz ⟨z', H', I', rz, qz⟩
theorem op_mulT (h : tOwn "Tie" "__mul__" X.K = true) (hm : tMulI "Tie" X.K = true) (F : FnR X.prog X.w X.K X.mg X.base CX0 k (mA "Tie" "__mul__" X.K) sp) (hr : Room k X.A) :
    OpR X (binaryOp .Mult) (fun x y H Q => ∃ a dx fs i, x = .ref a ∧ y = .int i ∧ H a = some (.ins (gA "Tie" X.K) dx fs) ∧ sp [x, y] H Q E0) := by
  intro pins s σ H x y v u Q I rx ry h
  obtain ⟨a, dx, fs, i, rfl, rfl, ea, q⟩ := h
  cases (show v = Value.ref a from rx)
  obtain ⟨t, rfl⟩ := ry
  obtain ⟨mA, O, _⟩ := ins_get I.hok ea
  obtain ⟨od, J, _⟩ := O.look
  obtain ⟨m, hF⟩ := I.fr
  obtain ⟨h1, h2, h3⟩ := own_ok h
  obtain ⟨g1, hm⟩ := He.ba hm
  obtain ⟨g2, hm⟩ := He.ba hm
  obtain ⟨g3, g4⟩ := He.ba hm
  obtain ⟨fo, g2⟩ := Option.isSome_iff_exists.mp g2
  obtain ⟨ro, g3⟩ := Option.isSome_iff_exists.mp g3
  refine PySem.W.ksp_binT (op := .Mult) hF I.ok.mod.kin J (T := "int") rfl h1 h2 h3 (eO_ok g1) (.inl rfl) g2 g3 (of_decide_eq_true g4) ?_
  refine wpAny_mono (wpAny_call (run_fnR (us := [.ref a, .int i t]) (vs := [.ref a, .int i]) F hr pass0 I (.cons rfl (.cons ⟨t, rfl⟩ .nil)) q)) (fun w s' z => ?_) fun _ _ x => x
  obtain ⟨z', H', I', rz, qz⟩ := z
  exact SlX.cmpback rz ⟨z', H', I', rz, qz⟩
end

end TT

-- M1
set_option linter.all false
set_option maxRecDepth 10000
namespace Lad

structure Ti where
  f : Int
  s : Int
  l : Int
  a : Int
  d : Bool
  b : Bool
deriving DecidableEq

def tie (f s l a : Int) (d b : Bool) : Ti := ⟨f, s, l, a, d, b && decide (1 < l)⟩
def Ti.sh (t : Ti) : Int := t.s - t.f
def Ti.tu (t : Ti) : Int := t.f + t.s + t.l - 1
def Ti.par (t : Ti) (p : Int) : Int := if t.b then t.tu - p else p + t.sh
def Ti.led (t : Ti) (x : Int) : Int := if t.d then t.a - x else t.a + x
def Ti.btw (t : Ti) (lo hi : Int) : Ti := tie lo (min (t.par lo) (t.par (hi - 1))) (hi - lo) t.a t.d t.b
def Ti.part (t : Ti) (st n : Int) : Ti := t.btw (t.f + st) (t.f + st + n)
def Ti.inv (t : Ti) : Ti := tie t.s t.f t.l (if t.d then t.a else -t.a) t.d t.b
def Ti.intoLo (t : Ti) (x y : Int) : Int := max (if t.b then t.tu - y + 1 else x - t.sh) t.f
def Ti.intoHi (t : Ti) (x y : Int) : Int := min (if t.b then t.tu - x + 1 else y - t.sh) (t.f + t.l)
def Ti.joinAt (t u : Ti) (lo hi : Int) : Ti := tie lo (min (u.par (t.par lo)) (u.par (t.par (hi - 1)))) (hi - lo) (u.led t.a) (t.d != u.d) (t.b != u.b)
def Ti.join (t u : Ti) : Ti := t.joinAt u (t.intoLo u.f (u.f + u.l)) (t.intoHi u.f (u.f + u.l))
def Ti.oftA (t : Ti) (m : Int) : Int := if t.d then t.a * (m % 2) else t.a * m
def Ti.oftD (t : Ti) (m : Int) : Bool := t.d && (m % 2 == 1)
/-- so many times; only once if backward -/
def Ti.times (t : Ti) (m : Int) : Ti := if m = 1 then t else tie t.f (t.f + m * t.sh) (t.l - (m - 1) * t.sh) (t.oftA m) (t.oftD m) false

structure Ok (t : Ti) : Prop where
  f0 : 0 ≤ t.f
  s0 : 0 ≤ t.s
  l1 : 1 ≤ t.l
  fe : t.f + t.l ≤ 10 ^ 30
  se : t.s + t.l ≤ 10 ^ 30
  bb : t.b = true → 1 < t.l

def Holds (x : Int → Int) (t : Ti) : Prop := ∀ p, t.f ≤ p → p < t.f + t.l → x (t.par p) = t.led (x p)

theorem led_inj {t : Ti} {a b : Int} (h : t.led a = t.led b) : a = b := by
  unfold Ti.led at h
  split at h <;> omega

/-- what a made tie says -/
def Raw (x : Int → Int) (f s l a : Int) (d b : Bool) : Prop := ∀ p, f ≤ p → p < f + l → x (if b then f + s + l - 1 - p else p + (s - f)) = if d then a - x p else a + x p
theorem holds_mk {x : Int → Int} {f s l a : Int} {d b : Bool} : Holds x (tie f s l a d b) ↔ Raw x f s l a d b := by
  unfold Holds Raw
  constructor
  · intro h p h1 h2
    have q := h p h1 h2
    unfold Ti.par Ti.led Ti.tu Ti.sh tie at q
    simp only at q
    by_cases hb : b = true
    · subst hb
      by_cases hl : 1 < l
      · simpa [hl] using q
      · have e1 : p = f := by omega
        have e2 : l = 1 := by omega
        subst e1 e2
        simp only [show decide ((1 : Int) < 1) = false by decide, Bool.and_false, Bool.false_eq_true, if_false] at q
        simp only [if_true]
        rw [← q]
        congr 1
        omega
    · have hb' : b = false := by simpa using hb
      subst hb'
      simpa using q
  · intro h p h1 h2
    have q := h p h1 h2
    unfold Ti.par Ti.led Ti.tu Ti.sh tie
    simp only
    simp only [show (tie f s l a d b).f = f from rfl] at h1
    simp only [show (tie f s l a d b).f = f from rfl, show (tie f s l a d b).l = l from rfl] at h2
    by_cases hb : b = true
    · subst hb
      by_cases hl : 1 < l
      · simpa [hl] using q
      · have e1 : p = f := by omega
        have e2 : l = 1 := by omega
        subst e1 e2
        simp only [show decide ((1 : Int) < 1) = false by decide, Bool.and_false, Bool.false_eq_true, if_false]
        simp only [if_true] at q
        rw [← q]
        congr 1
        omega
    · have hb' : b = false := by simpa using hb
      subst hb'
      simpa using q

theorem raw_inv1 {x : Int → Int} {f s l a : Int} {d b : Bool} (h : Raw x f s l a d b) : Raw x s f l (if d then a else -a) d b := by
  intro p h1 h2
  cases b with
  | true =>
    have q := h (f + s + l - 1 - p) (by omega) (by omega)
    simp only [if_true] at q ⊢
    rw [show f + s + l - 1 - (f + s + l - 1 - p) = p by omega] at q
    rw [show s + f + l - 1 - p = f + s + l - 1 - p by omega]
    cases d with
    | true => simp only [if_true] at q ⊢; omega
    | false => simp only [Bool.false_eq_true, if_false] at q ⊢; omega
  | false =>
    have q := h (p - (s - f)) (by omega) (by omega)
    simp only [Bool.false_eq_true, if_false] at q ⊢
    rw [show p - (s - f) + (s - f) = p by omega] at q
    rw [show p + (f - s) = p - (s - f) by omega]
    cases d with
    | true => simp only [if_true] at q ⊢; omega
    | false => simp only [Bool.false_eq_true, if_false] at q ⊢; omega
theorem raw_of {x : Int → Int} {t : Ti} (ht : t.b = true → 1 < t.l) : Holds x t ↔ Raw x t.f t.s t.l t.a t.d t.b := by
  obtain ⟨f, s, l, a, d, b⟩ := t
  unfold Holds Raw Ti.par Ti.led Ti.tu Ti.sh
  exact Iff.rfl
theorem holds_inv {x : Int → Int} {t : Ti} : Holds x t.inv ↔ Holds x t := by
  obtain ⟨f, s, l, a, d, b⟩ := t
  unfold Ti.inv
  rw [holds_mk]
  constructor
  · intro h
    have q := raw_inv1 h
    have e : (if d = true then (if d = true then a else -a) else -(if d = true then a else -a)) = a := by cases d <;> simp
    rw [e] at q
    exact q
  · intro h
    exact raw_inv1 (x := x) (f := f) (s := s) (l := l) (a := a) (d := d) (b := b) h

theorem join_tot {t u : Ti} (h0 : 1 ≤ t.l) (h1 : u.f ≤ t.s) (h2 : t.s + t.l ≤ u.f + u.l) :
    t.join u = tie t.f (if u.b then u.tu - (t.s + t.l - 1) else t.s + u.sh) t.l (u.led t.a) (t.d != u.d) (t.b != u.b) := by
  obtain ⟨f, s, l, a, d, b⟩ := t
  obtain ⟨f', s', l', a', d', b'⟩ := u
  simp only at h0 h1 h2
  have e1 : (Ti.mk f s l a d b).intoLo f' (f' + l') = f := by
    unfold Ti.intoLo Ti.tu Ti.sh
    cases b <;> simp only [Bool.false_eq_true, if_false, if_true] <;> omega
  have e2 : (Ti.mk f s l a d b).intoHi f' (f' + l') = f + l := by
    unfold Ti.intoHi Ti.tu Ti.sh
    cases b <;> simp only [Bool.false_eq_true, if_false, if_true] <;> omega
  unfold Ti.join
  simp only [e1, e2]
  unfold Ti.joinAt Ti.par Ti.tu Ti.sh
  have e3 : f + l - f = l := by omega
  rw [e3]
  congr 1
  cases b <;> cases b' <;> simp only [Bool.false_eq_true, if_false, if_true] <;> omega
theorem join_cot {t u : Ti} (h0 : 1 ≤ u.l) (h1 : t.s ≤ u.f) (h2 : u.f + u.l ≤ t.s + t.l) :
    t.join u = tie (if t.b then t.tu - (u.f + u.l - 1) else u.f - t.sh) u.s u.l (u.led t.a) (t.d != u.d) (t.b != u.b) := by
  obtain ⟨f, s, l, a, d, b⟩ := t
  obtain ⟨f', s', l', a', d', b'⟩ := u
  simp only at h0 h1 h2
  have e1 : (Ti.mk f s l a d b).intoLo f' (f' + l') = (if b then f + s + l - 1 - (f' + l' - 1) else f' - (s - f)) := by
    unfold Ti.intoLo Ti.tu Ti.sh
    cases b <;> simp only [Bool.false_eq_true, if_false, if_true] <;> omega
  have e2 : (Ti.mk f s l a d b).intoHi f' (f' + l') = (if b then f + s + l - 1 - (f' + l' - 1) else f' - (s - f)) + l' := by
    unfold Ti.intoHi Ti.tu Ti.sh
    cases b <;> simp only [Bool.false_eq_true, if_false, if_true] <;> omega
  unfold Ti.join
  simp only [e1, e2]
  unfold Ti.joinAt Ti.par Ti.tu Ti.sh
  have e3 : ∀ z : Int, z + l' - z = l' := fun z => by omega
  rw [e3]
  congr 1
  cases b <;> cases b' <;> simp only [Bool.false_eq_true, if_false, if_true] <;> omega
theorem raw_join {x : Int → Int} {f s l a s' l' a' f' : Int} {d b d' b' : Bool} (hu : Raw x f' s' l' a' d' b') (h1 : f' ≤ s) (h2 : s + l ≤ f' + l') :
    Raw x f (if b' then f' + s' + l' - 1 - (s + l - 1) else s + (s' - f')) l (if d' then a' - a else a' + a) (d != d') (b != b') ↔ Raw x f s l a d b := by
  unfold Raw
  refine forall_congr' fun p => ?_
  refine imp_congr_right fun g1 => imp_congr_right fun g2 => ?_
  have q := hu (if b then f + s + l - 1 - p else p + (s - f)) (by cases b <;> simp only [Bool.false_eq_true, if_false, if_true] <;> omega) (by cases b <;> simp only [Bool.false_eq_true, if_false, if_true] <;> omega)
  have e : (if (b != b') = true then f + (if b' then f' + s' + l' - 1 - (s + l - 1) else s + (s' - f')) + l - 1 - p else p + ((if b' then f' + s' + l' - 1 - (s + l - 1) else s + (s' - f')) - f))
      = (if b' then f' + s' + l' - 1 - (if b then f + s + l - 1 - p else p + (s - f)) else (if b then f + s + l - 1 - p else p + (s - f)) + (s' - f')) := by
    cases b <;> cases b' <;> simp <;> omega
  rw [e, q]
  cases d <;> cases d' <;> simp <;> constructor <;> intro z <;> omega
/-- a tie all of whose partners lie in the first part of a true one, joined -/
theorem holds_join {x : Int → Int} {t u : Ti} (h0 : 1 ≤ t.l) (h1 : u.f ≤ t.s) (h2 : t.s + t.l ≤ u.f + u.l) (hu : Holds x u) : Holds x (t.join u) ↔ Holds x t := by
  rw [join_tot h0 h1 h2, holds_mk]
  exact raw_join (x := x) hu h1 h2
theorem raw_cojoin {x : Int → Int} {f s l a s' l' a' f' : Int} {d b d' b' : Bool} (ht : Raw x f s l a d b) (h1 : s ≤ f') (h2 : f' + l' ≤ s + l) :
    Raw x (if b then f + s + l - 1 - (f' + l' - 1) else f' - (s - f)) s' l' (if d' then a' - a else a' + a) (d != d') (b != b') ↔ Raw x f' s' l' a' d' b' := by
  constructor
  · intro h p g1 g2
    have q := ht (if b then f + s + l - 1 - p else p - (s - f)) (by cases b <;> simp only [Bool.false_eq_true, if_false, if_true] <;> omega) (by cases b <;> simp only [Bool.false_eq_true, if_false, if_true] <;> omega)
    have r := h (if b then f + s + l - 1 - p else p - (s - f)) (by cases b <;> simp only [Bool.false_eq_true, if_false, if_true] <;> omega) (by cases b <;> simp only [Bool.false_eq_true, if_false, if_true] <;> omega)
    have e : (if (b != b') = true then (if b then f + s + l - 1 - (f' + l' - 1) else f' - (s - f)) + s' + l' - 1 - (if b then f + s + l - 1 - p else p - (s - f)) else (if b then f + s + l - 1 - p else p - (s - f)) + (s' - (if b then f + s + l - 1 - (f' + l' - 1) else f' - (s - f))))
        = (if b' then f' + s' + l' - 1 - p else p + (s' - f')) := by
      cases b <;> cases b' <;> simp <;> omega
    rw [e] at r
    have e2 : (if b = true then f + s + l - 1 - (if b then f + s + l - 1 - p else p - (s - f)) else (if b then f + s + l - 1 - p else p - (s - f)) + (s - f)) = p := by
      cases b <;> simp <;> omega
    rw [e2] at q
    rw [r, q]
    cases d <;> cases d' <;> simp <;> omega
  · intro h p g1 g2
    have q := ht p (by cases b <;> simp only [Bool.false_eq_true, if_false, if_true] at g1 g2 <;> omega) (by cases b <;> simp only [Bool.false_eq_true, if_false, if_true] at g1 g2 <;> omega)
    have r := h (if b then f + s + l - 1 - p else p + (s - f)) (by cases b <;> simp only [Bool.false_eq_true, if_false, if_true] at g1 g2 ⊢ <;> omega) (by cases b <;> simp only [Bool.false_eq_true, if_false, if_true] at g1 g2 ⊢ <;> omega)
    have e : (if (b != b') = true then (if b then f + s + l - 1 - (f' + l' - 1) else f' - (s - f)) + s' + l' - 1 - p else p + (s' - (if b then f + s + l - 1 - (f' + l' - 1) else f' - (s - f))))
        = (if b' then f' + s' + l' - 1 - (if b then f + s + l - 1 - p else p + (s - f)) else (if b then f + s + l - 1 - p else p + (s - f)) + (s' - f')) := by
      cases b <;> cases b' <;> simp <;> omega
    rw [e, r, q]
    cases d <;> cases d' <;> simp <;> omega
/-- a tie whose first part lies in the second part of a true one, joined -/
theorem holds_cojoin {x : Int → Int} {t u : Ti} (h0 : 1 ≤ u.l) (h1 : t.s ≤ u.f) (h2 : u.f + u.l ≤ t.s + t.l) (ht : Holds x t) : Holds x (t.join u) ↔ Holds x u := by
  rw [join_cot h0 h1 h2, holds_mk]
  exact raw_cojoin (x := x) ht h1 h2
end Lad

-- M2
set_option linter.all false
set_option maxRecDepth 10000
namespace Lad

def Ti.isOne (t : Ti) : Bool := decide (t.f = t.s) && !t.b
def Ti.isPin (t : Ti) : Bool := t.d && t.isOne
def Ti.cannot (t : Ti) : Bool := if t.isOne then (if t.d then t.a % 2 == 1 else t.a != 0) else false
def Ti.half (t : Ti) : Int := (t.f + t.s + t.l) / 2 - t.f
def evened1 (t : Ti) : List Ti :=
  if t.isOne then (if t.d || t.a != 0 then [t] else [])
  else if !t.b || decide (t.f + t.l - t.s ≤ 0) then [t]
  else if t.d && ((t.f + t.l - t.s) % 2 == 1) then [t.part 0 t.half, t.part t.half 1]
  else [t.part 0 t.half]
def evened (t : Ti) : List Ti := if t.s < t.f then evened1 t.inv else evened1 t
def Ti.rounds (t : Ti) (q lo : Int) : Int := if t.b || decide (t.f = t.s) then 1 else (q - lo) / (t.s - t.f) + 1
def Ti.way (c : Ti) (q : Int) : Ti := c.times (c.rounds q c.s)
def readPin (c t : Ti) : Ti := if t.s < c.s then t else if t.isPin then t.join c else (t.join c).join t.inv
def readTwo (c t : Ti) : Ti := if c.s ≤ t.s then t.join (c.way t.s).inv else t
def readOne (c t : Ti) : Ti := if c.s ≤ t.f then (t.inv.join (c.way t.f).inv).inv else t
def readLink (c t : Ti) : Ti := if t.isPin then (if t.f < c.s then t else ((c.way t.f).join t).join (c.way t.f).inv) else readOne c (readTwo c t)
def readBy (c t : Ti) : Ti := if c.isPin then readPin c t else readLink c t

/-! ### so many times -/
def Ti.iter (t : Ti) (n : Nat) (v : Int) : Int := if t.d then (if n % 2 = 1 then t.a - v else v) else t.a * n + v
theorem holds_iter {x : Int → Int} {t : Ti} (h : Holds x t) (hb : t.b = false) (hs : 0 ≤ t.sh) : ∀ (n : Nat) (p : Int), t.f ≤ p → (n = 0 ∨ p + ((n : Int) - 1) * t.sh < t.f + t.l) → x (p + n * t.sh) = t.iter n (x p)
  | 0, p, h1, h2 => by
    unfold Ti.iter
    simp
  | n + 1, p, h1, h2 => by
    have e1 : p + ((n + 1 : Nat) - 1 : Int) * t.sh < t.f + t.l := by
      rcases h2 with h2 | h2
      · cases h2
      · exact h2
    have e2 : ((n + 1 : Nat) - 1 : Int) = n := by omega
    rw [e2] at e1
    have ih := holds_iter h hb hs n p h1 (by
      by_cases hn : n = 0
      · exact .inl hn
      · right
        have : ((n : Int) - 1) * t.sh = n * t.sh - t.sh := by rw [Int.sub_mul]; omega
        omega)
    have nn : 0 ≤ (n : Int) * t.sh := Int.mul_nonneg (by omega) hs
    have q := h (p + n * t.sh) (by omega) e1
    unfold Ti.par at q
    rw [hb] at q
    simp only [Bool.false_eq_true, if_false] at q
    have e3 : p + ((n + 1 : Nat) : Int) * t.sh = p + n * t.sh + t.sh := by
      rw [Int.natCast_add, Int.add_mul]
      omega
    rw [e3, q, ih]
    unfold Ti.led Ti.iter
    cases t.d with
    | true =>
      simp only [if_true]
      by_cases h2 : n % 2 = 1
      · rw [if_pos h2, if_neg (by omega)]
        omega
      · rw [if_neg h2, if_pos (by omega)]
    | false =>
      simp only [Bool.false_eq_true, if_false]
      rw [Int.natCast_add, Int.mul_add]
      omega
theorem iter_oft (t : Ti) (n : Nat) (v : Int) : t.iter n v = if t.oftD n then t.oftA n - v else t.oftA n + v := by
  unfold Ti.iter Ti.oftD Ti.oftA
  cases hd : t.d with
  | true =>
    simp only [if_true, Bool.true_and, beq_iff_eq]
    by_cases h : n % 2 = 1
    · rw [if_pos h, if_pos (by omega), show ((n : Int) % 2) = 1 by omega]
      omega
    · rw [if_neg h, if_neg (by omega), show ((n : Int) % 2) = 0 by omega]
      omega
  | false => simp
theorem holds_times {x : Int → Int} {t : Ti} {m : Int} (h : Holds x t) (hm : 1 ≤ m) (hb : m ≠ 1 → t.b = false) (hs : m ≠ 1 → 0 ≤ t.sh) : Holds x (t.times m) := by
  unfold Ti.times
  by_cases h1 : m = 1
  · rw [if_pos h1]
    exact h
  · rw [if_neg h1, holds_mk]
    intro p g1 g2
    obtain ⟨n, rfl⟩ : ∃ n : Nat, m = n := ⟨m.toNat, by omega⟩
    have q := holds_iter h (hb h1) (hs h1) n p g1 (.inr (by omega))
    simp only [Bool.false_eq_true, if_false]
    rw [show p + (t.f + (n : Int) * t.sh - t.f) = p + n * t.sh by omega, q, iter_oft]

/-! ### the cutter's way back -/
/-- an even tie that is no pin, with its shape -/
structure Ev (c : Ti) : Prop where
  lt : c.f < c.s
  l1 : 1 ≤ c.l
  nm : c.b = true → 1 < c.l
  ap : c.b = true → c.f + c.l ≤ c.s
structure WayGeo (c w : Ti) (q : Int) : Prop where
  f : w.f = c.f
  e : w.s + w.l = c.s + c.l
  lo : c.s ≤ w.s
  at_ : w.s ≤ q
  l1 : 1 ≤ w.l
  b : w.b = c.b
  bc : c.b = true → w = c
  st : c.b = false → c.f ≤ q - (w.s - w.f) ∧ q - (w.s - w.f) < c.s ∧ c.s - c.f ≤ w.s - w.f
theorem rounds_pos {c : Ti} (hc : Ev c) (hb : c.b = false) {q lo : Int} (h1 : lo ≤ q) : 1 ≤ c.rounds q lo ∧ (c.rounds q lo - 1) * c.sh ≤ q - lo ∧ q - lo < c.rounds q lo * c.sh := by
  have hs : 0 < c.sh := by
    have := hc.lt
    unfold Ti.sh
    omega
  have hr : c.rounds q lo = (q - lo) / c.sh + 1 := by
    unfold Ti.rounds Ti.sh
    rw [hb, if_neg (by have := hc.lt; simp; omega)]
  have h2 : 0 ≤ (q - lo) / c.sh := Int.ediv_nonneg (by omega) (by omega)
  have h3 := Int.emod_add_mul_ediv (q - lo) c.sh
  have h4 := Int.emod_nonneg (q - lo) (show c.sh ≠ 0 by omega)
  have h5 := Int.emod_lt_of_pos (q - lo) hs
  rw [hr]
  refine ⟨by omega, ?_, ?_⟩
  · rw [show (q - lo) / c.sh + 1 - 1 = (q - lo) / c.sh by omega, Int.mul_comm]
    omega
  · rw [Int.add_mul, Int.mul_comm]
    omega
theorem way_geo {c : Ti} (hc : Ev c) {q : Int} (h1 : c.s ≤ q) (h2 : q < c.s + c.l) : WayGeo c (c.way q) q := by
  unfold Ti.way
  by_cases hb : c.b = true
  · have hr : c.rounds q c.s = 1 := by
      unfold Ti.rounds
      rw [hb]
      rfl
    rw [hr]
    have e : c.times 1 = c := by
      unfold Ti.times
      rw [if_pos rfl]
    rw [e]
    exact ⟨rfl, rfl, Int.le_refl _, h1, hc.l1, rfl, fun _ => rfl, fun z => by rw [hb] at z; cases z⟩
  · have hb' : c.b = false := by simpa using hb
    obtain ⟨r1, r2, r3⟩ := rounds_pos hc hb' h1
    generalize hm : c.rounds q c.s = m at *
    have hs : c.sh = c.s - c.f := rfl
    have := hc.lt
    by_cases h : m = 1
    · subst h
      have e : c.times 1 = c := by
        unfold Ti.times
        rw [if_pos rfl]
      rw [e]
      refine ⟨rfl, rfl, Int.le_refl _, h1, hc.l1, rfl, fun _ => rfl, fun _ => ⟨?_, ?_, ?_⟩⟩ <;> omega
    · have e : c.times m = tie c.f (c.f + m * c.sh) (c.l - (m - 1) * c.sh) (c.oftA m) (c.oftD m) false := by
        unfold Ti.times
        rw [if_neg h]
      rw [e]
      have e2 : m * c.sh = (m - 1) * c.sh + c.sh := by
        rw [Int.sub_mul]
        omega
      have e3 : 0 ≤ (m - 1) * c.sh := Int.mul_nonneg (by omega) (by omega)
      refine ⟨rfl, ?_, ?_, ?_, ?_, ?_, fun z => absurd z hb, fun _ => ⟨?_, ?_, ?_⟩⟩
      · show c.f + m * c.sh + (c.l - (m - 1) * c.sh) = _
        omega
      · show c.s ≤ c.f + m * c.sh
        omega
      · show c.f + m * c.sh ≤ q
        omega
      · show 1 ≤ c.l - (m - 1) * c.sh
        omega
      · rw [hb']
        rfl
      · show c.f ≤ q - (c.f + m * c.sh - c.f)
        omega
      · show q - (c.f + m * c.sh - c.f) < c.s
        omega
      · show c.s - c.f ≤ c.f + m * c.sh - c.f
        omega
theorem holds_way {x : Int → Int} {c : Ti} (hc : Ev c) (h : Holds x c) {q : Int} (h1 : c.s ≤ q) : Holds x (c.way q) := by
  unfold Ti.way
  by_cases hb : c.b = true
  · have hr : c.rounds q c.s = 1 := by
      unfold Ti.rounds
      rw [hb]
      rfl
    rw [hr]
    exact holds_times h (Int.le_refl _) (fun z => absurd rfl z) (fun z => absurd rfl z)
  · have hb' : c.b = false := by simpa using hb
    obtain ⟨r1, r2, r3⟩ := rounds_pos hc hb' h1
    exact holds_times h r1 (fun _ => hb') fun _ => by
      have := hc.lt
      unfold Ti.sh
      omega
end Lad

-- M3
set_option linter.all false
set_option maxRecDepth 10000
namespace Lad
/-! ### a grid of borders -/
structure Grid where
  D : Int → Prop
  B : Int → Prop
  rk : Int → Nat
  d0 : D 0
  add : ∀ {a b}, D a → D b → D (a + b)
  sub : ∀ {a b}, D a → D b → D (a - b)
  sh : ∀ {z k}, B z → D k → B (z + k)
  ng : ∀ {z}, B z → B (-z)
  hf : ∀ {c}, D c → B (c / 2) ∧ B ((c + 1) / 2)
  mono : ∀ {a b}, B a → B b → 0 ≤ a → a < b → rk a < rk b
theorem Grid.neg (G : Grid) {a : Int} (h : G.D a) : G.D (-a) := by
  have := G.sub G.d0 h
  rwa [Int.zero_sub] at this
theorem Grid.mir (G : Grid) {z c : Int} (h : G.B z) (hc : G.D c) : G.B (c - z) := by
  have := G.sh (G.ng h) hc
  rwa [show -z + c = c - z by omega] at this
/-- a tie along the grid -/
structure Al (G : Grid) (t : Ti) : Prop where
  f : G.B t.f
  s : G.B t.s
  fe : G.B (t.f + t.l)
  se : G.B (t.s + t.l)
  st : 1 < t.l → t.b = false → G.D t.sh
  bk : 1 < t.l → t.b = true → G.D (t.tu + 1)
/-- weak: within e, along the grid -/
structure Wk (G : Grid) (e : Int) (t : Ti) : Prop where
  f0 : 0 ≤ t.f
  s0 : 0 ≤ t.s
  l1 : 1 ≤ t.l
  fe : t.f + t.l ≤ e
  se : t.s + t.l ≤ e
  nm : t.b = true → 1 < t.l
  al : Al G t
/-- a link of a ladder: even, or a pin -/
structure Gd (G : Grid) (e : Int) (t : Ti) : Prop where
  wk : Wk G e t
  sp : (t.f < t.s ∧ (t.b = true → t.f + t.l ≤ t.s)) ∨ t.isPin = true
theorem isPin_iff {t : Ti} : t.isPin = true ↔ t.d = true ∧ t.f = t.s ∧ t.b = false := by
  unfold Ti.isPin Ti.isOne
  simp
theorem Gd.ev {G : Grid} {e : Int} {t : Ti} (h : Gd G e t) (hp : t.isPin = false) : Ev t := by
  rcases h.sp with q | q
  · exact ⟨q.1, h.wk.l1, h.wk.nm, q.2⟩
  · rw [hp] at q
    cases q
theorem Gd.le {G : Grid} {e : Int} {t : Ti} (h : Gd G e t) : t.f ≤ t.s := by
  rcases h.sp with q | q
  · omega
  · have := (isPin_iff.mp q).2.1
    omega
/-- the parts of a made tie -/
theorem wk_tie {G : Grid} {e f s l a : Int} {d b : Bool} (f0 : 0 ≤ f) (s0 : 0 ≤ s) (l1 : 1 ≤ l) (fe : f + l ≤ e) (se : s + l ≤ e) (b1 : G.B f) (b2 : G.B s) (b3 : G.B (f + l)) (b4 : G.B (s + l))
    (st : 1 < l → b = false → G.D (s - f)) (bk : 1 < l → b = true → G.D (f + s + l)) : Wk G e (tie f s l a d b) := by
  refine ⟨f0, s0, l1, fe, se, fun h => ?_, ⟨b1, b2, b3, b4, fun h1 h2 => ?_, fun h1 h2 => ?_⟩⟩
  · have h' : (b && decide (1 < l)) = true := h
    simp at h'
    exact h'.2
  · have h1' : 1 < l := h1
    have h2' : (b && decide (1 < l)) = false := h2
    simp [h1'] at h2'
    exact st h1' h2'
  · have h1' : 1 < l := h1
    have h2' : (b && decide (1 < l)) = true := h2
    simp [h1'] at h2'
    show G.D (f + s + l - 1 + 1)
    rw [show f + s + l - 1 + 1 = f + s + l by omega]
    exact bk h1' h2'
theorem wk_inv {G : Grid} {e : Int} {t : Ti} (h : Wk G e t) : Wk G e t.inv := by
  unfold Ti.inv
  refine wk_tie h.s0 h.f0 h.l1 h.se h.fe h.al.s h.al.f h.al.se h.al.fe (fun h1 h2 => ?_) (fun h1 h2 => ?_)
  · have := G.neg (h.al.st h1 h2)
    unfold Ti.sh at this
    rwa [show -(t.s - t.f) = t.f - t.s by omega] at this
  · have := h.al.bk h1 h2
    unfold Ti.tu at this
    rwa [show t.f + t.s + t.l - 1 + 1 = t.s + t.f + t.l by omega] at this
theorem tie_eta {t : Ti} (h : t.b = true → 1 < t.l) : tie t.f t.s t.l t.a t.d t.b = t := by
  obtain ⟨f, s, l, a, d, b⟩ := t
  unfold tie
  cases b with
  | false => rfl
  | true =>
    have : 1 < l := h rfl
    simp [this]
/-- a part of a tie, by its first place and length -/
theorem part_eq {t : Ti} {st n : Int} (hn : 1 ≤ n) : t.part st n = tie (t.f + st) (if t.b then t.s + t.l - st - n else t.s + st) n t.a t.d t.b := by
  obtain ⟨f, s, l, a, d, b⟩ := t
  unfold Ti.part Ti.btw Ti.par Ti.tu Ti.sh
  simp only
  rw [show f + st + n - (f + st) = n by omega]
  congr 1
  cases b <;> simp only [Bool.false_eq_true, if_false, if_true] <;> omega
theorem holds_part_of {x : Int → Int} {t : Ti} {st n : Int} (ht : t.b = true → 1 < t.l) (h0 : 0 ≤ st) (hn : 1 ≤ n) (hl : st + n ≤ t.l) :
    Holds x (t.part st n) ↔ ∀ p, t.f + st ≤ p → p < t.f + st + n → x (t.par p) = t.led (x p) := by
  rw [part_eq hn, holds_mk]
  unfold Raw Ti.par Ti.led Ti.tu Ti.sh
  refine forall_congr' fun p => imp_congr_right fun g1 => imp_congr_right fun g2 => ?_
  have e : (if t.b = true then t.f + st + (if t.b then t.s + t.l - st - n else t.s + st) + n - 1 - p else p + ((if t.b then t.s + t.l - st - n else t.s + st) - (t.f + st))) = (if t.b = true then t.f + t.s + t.l - 1 - p else p + (t.s - t.f)) := by
    cases t.b <;> simp only [Bool.false_eq_true, if_false, if_true] <;> omega
  rw [e]
end Lad

-- M4
set_option linter.all false
set_option maxRecDepth 10000
namespace Lad
theorem Grid.mul (G : Grid) {a : Int} (h : G.D a) : ∀ n : Nat, G.D (n * a)
  | 0 => by
    rw [show ((0 : Nat) : Int) * a = 0 by simp]
    exact G.d0
  | n + 1 => by
    have := G.add (Grid.mul G h n) h
    rwa [show (n : Int) * a + a = ((n + 1 : Nat) : Int) * a by rw [Int.natCast_add, Int.add_mul]; omega] at this
theorem Grid.mulI (G : Grid) {a m : Int} (h : G.D a) (hm : 0 ≤ m) : G.D (m * a) := by
  obtain ⟨n, rfl⟩ : ∃ n : Nat, m = n := ⟨m.toNat, by omega⟩
  exact G.mul h n
/-- the way's step is one of the grid -/
theorem way_step {G : Grid} {c : Ti} (hc : Ev c) (ac : Al G c) {q : Int} (h1 : c.s ≤ q) (hb : c.b = false) (hl : 1 < c.l) : G.D ((c.way q).s - (c.way q).f) := by
  have hd := ac.st hl hb
  obtain ⟨r1, r2, r3⟩ := rounds_pos hc hb h1
  unfold Ti.way
  generalize c.rounds q c.s = m at *
  unfold Ti.times
  by_cases h : m = 1
  · rw [if_pos h]
    exact hd
  · rw [if_neg h]
    show G.D (c.f + m * c.sh - c.f)
    rw [show c.f + m * c.sh - c.f = m * c.sh by omega]
    exact G.mulI hd (by omega)
/-- where the way leads a stretch that ends at its end -/
def wayTo (c : Ti) (q l : Int) : Int := if c.b then c.tu - (q + l - 1) else q - ((c.way q).s - (c.way q).f)
structure To (G : Grid) (c : Ti) (q l S : Int) : Prop where
  lo : c.f ≤ S
  hi : S + l < c.s + c.l
  b1 : G.B S
  b2 : G.B (S + l)
theorem way_to {G : Grid} {c : Ti} (hc : Ev c) (ac : Al G c) {q l : Int} (h1 : c.s ≤ q) (hl : 1 ≤ l) (h2 : q + l ≤ c.s + c.l) (bq : G.B q) (bl : G.B (q + l)) : To G c q l (wayTo c q l) := by
  have g := way_geo hc h1 (by omega)
  have hlt := hc.lt
  unfold wayTo
  by_cases hb : c.b = true
  · rw [if_pos hb]
    have hn := hc.nm hb
    have ha := hc.ap hb
    have hd := ac.bk hn hb
    unfold Ti.tu at hd ⊢
    refine ⟨by omega, by omega, ?_, ?_⟩
    · have := G.mir bl hd
      rwa [show c.f + c.s + c.l - 1 + 1 - (q + l) = c.f + c.s + c.l - 1 - (q + l - 1) by omega] at this
    · have := G.mir bq hd
      rwa [show c.f + c.s + c.l - 1 + 1 - q = c.f + c.s + c.l - 1 - (q + l - 1) + l by omega] at this
  · have hb' : c.b = false := by simpa using hb
    rw [if_neg hb]
    obtain ⟨g1, g2, g3⟩ := g.st hb'
    by_cases hn : 1 < c.l
    · have hd := way_step hc ac h1 hb' hn
      generalize (c.way q).s - (c.way q).f = z at *
      refine ⟨by omega, by omega, ?_, ?_⟩
      · have := G.sh bq (G.neg hd)
        rwa [show q + -z = q - z by omega] at this
      · have := G.sh bl (G.neg hd)
        rwa [show q + l + -z = q - z + l by omega] at this
    · have hcl := hc.l1
      have e1 : c.l = 1 := by omega
      have e2 : q = c.s := by omega
      have e3 : l = 1 := by omega
      have e4 : c.way q = c := by
        unfold Ti.way Ti.rounds
        rw [if_neg (by rw [hb']; simp; omega), e2]
        rw [show c.s - c.s = 0 by omega, Int.zero_ediv]
        unfold Ti.times
        rw [if_pos (by omega)]
      rw [e4, e2, e3]
      have a1 := ac.f
      have a2 := ac.fe
      rw [e1] at a2
      refine ⟨by omega, by omega, ?_, ?_⟩
      · rwa [show c.s - (c.s - c.f) = c.f by omega]
      · rwa [show c.s - (c.s - c.f) + 1 = c.f + 1 by omega]
theorem inv_b {w : Ti} (h : w.b = true → 1 < w.l) : w.inv.b = w.b := by
  show (w.b && decide (1 < w.l)) = w.b
  cases hb : w.b with
  | false => rfl
  | true => simp [h hb]
theorem way_nm {c w : Ti} {q : Int} (hc : Ev c) (g : WayGeo c w q) : w.b = true → 1 < w.l := fun h => by
  have hb : c.b = true := by rw [← g.b]; exact h
  rw [g.bc hb]
  exact hc.nm hb
/-- a join with the way back -/
theorem join_way {c t : Ti} (hc : Ev c) (h0 : 1 ≤ t.l) (h1 : c.s ≤ t.s) (h2 : t.s + t.l ≤ c.s + c.l) :
    t.join (c.way t.s).inv = tie t.f (wayTo c t.s t.l) t.l ((c.way t.s).inv.led t.a) (t.d != (c.way t.s).d) (t.b != c.b) := by
  have g := way_geo hc h1 (by omega)
  have ib := inv_b (way_nm hc g)
  have gs : (c.way t.s).inv.f = (c.way t.s).s := rfl
  have gl : (c.way t.s).inv.l = (c.way t.s).l := rfl
  have a1 := g.at_
  have a2 := g.e
  rw [join_tot h0 (by rw [gs]; omega) (by rw [gs, gl]; omega), ib, g.b]
  congr 1
  unfold wayTo
  by_cases hb : c.b = true
  · rw [if_pos hb, if_pos hb, g.bc hb]
    show c.s + c.f + c.l - 1 - (t.s + t.l - 1) = _
    unfold Ti.tu
    omega
  · rw [if_neg hb, if_neg hb]
    show t.s + ((c.way t.s).f - (c.way t.s).s) = _
    omega
/-- the second part is read through -/
theorem wk_read {G : Grid} {e : Int} {c t : Ti} (hc : Ev c) (ac : Al G c) (cf : 0 ≤ c.f) (he : c.s + c.l = e) (ht : Wk G e t) (h1 : c.s ≤ t.s) (hf : t.f + t.l < e) : Wk G (e - 1) (t.join (c.way t.s).inv) := by
  have hse := ht.se
  have T := way_to hc ac h1 ht.l1 (by omega) ht.al.s ht.al.se
  rw [join_way hc ht.l1 h1 (by omega)]
  have lo := T.lo
  have hi := T.hi
  refine wk_tie ht.f0 (by omega) ht.l1 (by omega) (by omega) ht.al.f T.b1 ht.al.fe T.b2 (fun hl hb => ?_) (fun hl hb => ?_)
  · have hcl : 1 < c.l := by omega
    cases tb : t.b with
    | false =>
      have cb : c.b = false := by rw [tb] at hb; simpa using hb
      have d1 := ht.al.st hl tb
      have d2 := way_step hc ac h1 cb hcl
      have d3 := G.sub d1 d2
      unfold wayTo
      rw [cb]
      simp only [Bool.false_eq_true, if_false]
      unfold Ti.sh at d3
      rwa [show t.s - t.f - ((c.way t.s).s - (c.way t.s).f) = t.s - ((c.way t.s).s - (c.way t.s).f) - t.f by omega] at d3
    | true =>
      have cb : c.b = true := by rw [tb] at hb; simpa using hb
      have d1 := ht.al.bk hl tb
      have d2 := ac.bk hcl cb
      have d3 := G.sub d2 d1
      unfold wayTo
      rw [cb]
      simp only [if_true]
      unfold Ti.tu at d3 ⊢
      rwa [show c.f + c.s + c.l - 1 + 1 - (t.f + t.s + t.l - 1 + 1) = c.f + c.s + c.l - 1 - (t.s + t.l - 1) - t.f by omega] at d3
  · have hcl : 1 < c.l := by omega
    cases tb : t.b with
    | false =>
      have cb : c.b = true := by rw [tb] at hb; simpa using hb
      have d1 := ht.al.st hl tb
      have d2 := ac.bk hcl cb
      have d3 := G.sub d2 d1
      unfold wayTo
      rw [cb]
      simp only [if_true]
      unfold Ti.tu Ti.sh at d3
      unfold Ti.tu
      rwa [show c.f + c.s + c.l - 1 + 1 - (t.s - t.f) = t.f + (c.f + c.s + c.l - 1 - (t.s + t.l - 1)) + t.l by omega] at d3
    | true =>
      have cb : c.b = false := by rw [tb] at hb; simpa using hb
      have d1 := ht.al.bk hl tb
      have d2 := way_step hc ac h1 cb hcl
      have d3 := G.sub d1 d2
      unfold wayTo
      rw [cb]
      simp only [Bool.false_eq_true, if_false]
      unfold Ti.tu at d3
      rwa [show t.f + t.s + t.l - 1 + 1 - ((c.way t.s).s - (c.way t.s).f) = t.f + (t.s - ((c.way t.s).s - (c.way t.s).f)) + t.l by omega] at d3
theorem holds_read {x : Int → Int} {c t : Ti} (hc : Ev c) (h0 : 1 ≤ t.l) (h1 : c.s ≤ t.s) (h2 : t.s + t.l ≤ c.s + c.l) (hx : Holds x c) : Holds x (t.join (c.way t.s).inv) ↔ Holds x t := by
  have g := way_geo hc h1 (by omega)
  have a1 := g.at_
  have a2 := g.e
  exact holds_join h0 (show (c.way t.s).s ≤ t.s from a1) (show t.s + t.l ≤ (c.way t.s).s + (c.way t.s).l by omega) (holds_inv.mpr (holds_way hc hx h1))
/-! ### a pin is read through -/
theorem pin_way {c t : Ti} (hc : Ev c) (hp : t.isPin = true) (h0 : 1 ≤ t.l) (h1 : c.s ≤ t.f) (h2 : t.f + t.l ≤ c.s + c.l) :
    ∃ a, ((c.way t.f).join t).join (c.way t.f).inv = tie (wayTo c t.f t.l) (wayTo c t.f t.l) t.l a true false := by
  obtain ⟨p1, p2, p3⟩ := isPin_iff.mp hp
  have g := way_geo hc h1 (by omega)
  have ib := inv_b (way_nm hc g)
  have a1 := g.at_
  have a2 := g.e
  have e1 : (c.way t.f).join t = tie (wayTo c t.f t.l) t.s t.l (t.led (c.way t.f).a) ((c.way t.f).d != t.d) ((c.way t.f).b != t.b) := by
    rw [join_cot h0 a1 (by omega), g.b]
    congr 1
    unfold wayTo
    by_cases hb : c.b = true
    · rw [if_pos hb, if_pos hb, g.bc hb]
    · rw [if_neg hb, if_neg hb]
      rfl
  rw [e1]
  have gs : (c.way t.f).inv.f = (c.way t.f).s := rfl
  have gl : (c.way t.f).inv.l = (c.way t.f).l := rfl
  generalize hT : tie (wayTo c t.f t.l) t.s t.l (t.led (c.way t.f).a) ((c.way t.f).d != t.d) ((c.way t.f).b != t.b) = T
  have T1 : T.f = wayTo c t.f t.l := by rw [← hT]; rfl
  have T2 : T.s = t.s := by rw [← hT]; rfl
  have T3 : T.l = t.l := by rw [← hT]; rfl
  have T4 : T.d = ((c.way t.f).d != t.d) := by rw [← hT]; rfl
  have T5 : T.b = (((c.way t.f).b != t.b) && decide (1 < t.l)) := by rw [← hT]; rfl
  rw [join_tot (by omega) (by rw [gs]; omega) (by rw [gs, gl]; omega), ib, g.b, T1, T2, T3, T4, T5, g.b, p1, p3]
  refine ⟨(c.way t.f).inv.led T.a, ?_⟩
  have eS : (if c.b = true then (c.way t.f).inv.tu - (t.s + t.l - 1) else t.s + (c.way t.f).inv.sh) = wayTo c t.f t.l := by
    unfold wayTo
    by_cases hb : c.b = true
    · rw [if_pos hb, if_pos hb, g.bc hb]
      show c.s + c.f + c.l - 1 - (t.s + t.l - 1) = _
      unfold Ti.tu
      omega
    · rw [if_neg hb, if_neg hb]
      show t.s + ((c.way t.f).f - (c.way t.f).s) = _
      omega
  rw [eS]
  show tie _ _ _ _ (((c.way t.f).d != true) != (c.way t.f).d) (((c.b != false) && decide (1 < t.l)) != c.b) = _
  have ed : (((c.way t.f).d != true) != (c.way t.f).d) = true := by cases (c.way t.f).d <;> rfl
  rw [ed]
  unfold tie
  congr 1
  cases c.b with
  | false => simp
  | true =>
    by_cases hl : 1 < t.l
    · simp [hl]
    · simp [hl]
theorem holds_pin_way {x : Int → Int} {c t : Ti} (hc : Ev c) (hp : t.isPin = true) (h0 : 1 ≤ t.l) (h1 : c.s ≤ t.f) (h2 : t.f + t.l ≤ c.s + c.l) (hx : Holds x c) :
    Holds x (((c.way t.f).join t).join (c.way t.f).inv) ↔ Holds x t := by
  obtain ⟨p1, p2, p3⟩ := isPin_iff.mp hp
  have g := way_geo hc h1 (by omega)
  have a1 := g.at_
  have a2 := g.e
  have hw := holds_way hc hx h1
  have e1 : ((c.way t.f).join t).s = t.s ∧ ((c.way t.f).join t).l = t.l := by
    rw [join_cot h0 a1 (by omega)]
    exact ⟨rfl, rfl⟩
  rw [holds_join (by rw [e1.2]; exact h0) (by rw [e1.1]; show (c.way t.f).s ≤ _; omega) (by rw [e1.1, e1.2]; show _ ≤ (c.way t.f).s + (c.way t.f).l; omega) (holds_inv.mpr hw)]
  exact holds_cojoin h0 a1 (by omega) hw
/-! ### through a pin -/
theorem pin_join {c t : Ti} (hp : c.isPin = true) (h0 : 1 ≤ t.l) (nm : t.b = true → 1 < t.l) (h1 : c.s ≤ t.s) (h2 : t.s + t.l ≤ c.s + c.l) : t.join c = tie t.f t.s t.l (c.a - t.a) (!t.d) t.b := by
  obtain ⟨p1, p2, p3⟩ := isPin_iff.mp hp
  rw [join_tot h0 (by omega) (by omega), p3, p1]
  unfold Ti.led
  rw [p1]
  simp only [Bool.false_eq_true, if_false, if_true]
  congr 1
  · show t.s + (c.s - c.f) = _
    omega
  · simp
  · cases t.b <;> rfl
theorem pin_join2 {c t : Ti} (hp : c.isPin = true) (h0 : 1 ≤ t.l) (nm : t.b = true → 1 < t.l) (h1 : c.s ≤ t.s) (h2 : t.s + t.l ≤ c.s + c.l) :
    (t.join c).join t.inv = tie t.f t.f t.l (if t.d then 2 * t.a - c.a else c.a - 2 * t.a) true false := by
  rw [pin_join hp h0 nm h1 h2, tie_eta (t := ⟨t.f, t.s, t.l, c.a - t.a, !t.d, t.b⟩) nm]
  have ib := inv_b nm
  rw [join_tot (t := ⟨t.f, t.s, t.l, c.a - t.a, !t.d, t.b⟩) h0 (Int.le_refl _) (Int.le_refl _), ib]
  simp only
  have e1 : (if t.b = true then t.inv.tu - (t.s + t.l - 1) else t.s + t.inv.sh) = t.f := by
    unfold Ti.tu Ti.sh
    show (if t.b = true then t.s + t.f + t.l - 1 - (t.s + t.l - 1) else t.s + (t.f - t.s)) = t.f
    split <;> omega
  have e2 : t.inv.led (c.a - t.a) = (if t.d then 2 * t.a - c.a else c.a - 2 * t.a) := by
    unfold Ti.led
    show (if t.d = true then (if t.d then t.a else -t.a) - (c.a - t.a) else (if t.d then t.a else -t.a) + (c.a - t.a)) = _
    cases t.d <;> simp <;> omega
  have e3 : ((!t.d) != t.inv.d) = true := by
    show ((!t.d) != t.d) = true
    cases t.d <;> rfl
  have e4 : (t.b != t.b) = false := by cases t.b <;> rfl
  rw [e1, e2, e3, e4]
theorem holds_pin {x : Int → Int} {t : Ti} (hp : t.isPin = true) : Holds x t ↔ ∀ p, t.f ≤ p → p < t.f + t.l → 2 * x p = t.a := by
  obtain ⟨p1, p2, p3⟩ := isPin_iff.mp hp
  unfold Holds Ti.par Ti.led Ti.sh
  rw [p1, p3, p2]
  simp only [Bool.false_eq_true, if_false, if_true]
  refine forall_congr' fun p => imp_congr_right fun g1 => imp_congr_right fun g2 => ?_
  rw [show p + (t.s - t.s) = p by omega]
  omega
theorem holds_pin_join2 {x : Int → Int} {c t : Ti} (hp : c.isPin = true) (h0 : 1 ≤ t.l) (nm : t.b = true → 1 < t.l) (h1 : c.s ≤ t.s) (h2 : t.s + t.l ≤ c.s + c.l) (hx : Holds x c) : Holds x ((t.join c).join t.inv) ↔ Holds x t := by
  rw [pin_join2 hp h0 nm h1 h2, holds_mk]
  obtain ⟨p1, p2, p3⟩ := isPin_iff.mp hp
  have hx' := (holds_pin hp).mp hx
  unfold Raw Holds
  refine forall_congr' fun p => imp_congr_right fun g1 => imp_congr_right fun g2 => ?_
  have q := hx' (t.par p) (by unfold Ti.par Ti.tu Ti.sh; split <;> omega) (by unfold Ti.par Ti.tu Ti.sh; split <;> omega)
  simp only [Bool.false_eq_true, if_false, if_true]
  rw [show p + (t.f - t.f) = p by omega]
  unfold Ti.led
  cases t.d with
  | true => simp only [if_true]; omega
  | false => simp only [Bool.false_eq_true, if_false]; omega
end Lad

-- M5
set_option linter.all false
set_option maxRecDepth 10000
namespace Lad
/-! ### evened -/
theorem not_one {t : Ti} (h : t.isOne = false) (hn : t.b = false) : t.f ≠ t.s := fun e => by
  unfold Ti.isOne at h
  rw [hn] at h
  simp [e] at h
theorem one_iff {t : Ti} : t.isOne = true ↔ t.f = t.s ∧ t.b = false := by
  unfold Ti.isOne
  simp
/-- a tie that leads a part to itself, straight and up, says nothing if it can be -/
theorem one_up {x : Int → Int} {t : Ti} (h0 : 1 ≤ t.l) (h1 : t.isOne = true) (h2 : t.d = false) (hx : Holds x t) : t.a = 0 := by
  obtain ⟨p2, p3⟩ := one_iff.mp h1
  have q := hx t.f (Int.le_refl _) (by omega)
  unfold Ti.par Ti.led Ti.sh at q
  rw [h2, p3, p2] at q
  simp only [Bool.false_eq_true, if_false] at q
  rw [show t.s + (t.s - t.s) = t.s by omega] at q
  omega
theorem one_up_all {x : Int → Int} {t : Ti} (h1 : t.isOne = true) (h2 : t.d = false) (h3 : t.a = 0) : Holds x t := by
  obtain ⟨p2, p3⟩ := one_iff.mp h1
  intro p g1 g2
  unfold Ti.par Ti.led Ti.sh
  rw [h2, p3, p2, h3]
  simp only [Bool.false_eq_true, if_false]
  rw [show p + (t.s - t.s) = p by omega]
  omega
structure Lap (t : Ti) : Prop where
  b : t.b = true
  le : t.f ≤ t.s
  lp : t.s < t.f + t.l
theorem Lap.half {t : Ti} (h : Lap t) (h1 : 1 < t.l) : 1 ≤ t.half ∧ 2 * t.half ≤ t.s + t.l - t.f ∧ t.s + t.l - t.f ≤ 2 * t.half + 1 ∧ t.half < t.l + 1 := by
  have := h.le
  have := h.lp
  unfold Ti.half
  omega
theorem lap_up {x : Int → Int} {t : Ti} (h : Lap t) (h2 : t.d = false) (hx : Holds x t) : t.a = 0 := by
  have := h.le
  have := h.lp
  have q := hx t.s (by omega) (by omega)
  have r := hx (t.f + t.l - 1) (by omega) (by omega)
  unfold Ti.par Ti.led Ti.tu at q r
  rw [h.b, h2] at q r
  simp only [Bool.false_eq_true, if_false, if_true] at q r
  rw [show t.f + t.s + t.l - 1 - t.s = t.f + t.l - 1 by omega] at q
  rw [show t.f + t.s + t.l - 1 - (t.f + t.l - 1) = t.s by omega] at r
  omega
/-- the first half, and the middle of a tie down, say it all -/
theorem holds_lap {x : Int → Int} {t : Ti} (h : Lap t) (h1 : 1 < t.l) (ha : t.d = false → t.a = 0) :
    Holds x t ↔ Holds x (t.part 0 t.half) ∧ ((t.d && ((t.f + t.l - t.s) % 2 == 1)) = true → Holds x (t.part t.half 1)) := by
  obtain ⟨z1, z2, z3, z4⟩ := h.half h1
  have hle := h.le
  have hlp := h.lp
  have zl : t.half ≤ t.l := by omega
  have par : ∀ p, t.par p = t.f + t.s + t.l - 1 - p := fun p => by
    unfold Ti.par Ti.tu
    rw [h.b]
    simp
  constructor
  · intro hx
    refine ⟨(holds_part_of (fun _ => h1) (Int.le_refl _) z1 (by omega)).mpr fun p g1 g2 => hx p (by omega) (by omega), fun hm => ?_⟩
    have hodd : (t.f + t.l - t.s) % 2 = 1 := by
      simp only [Bool.and_eq_true, beq_iff_eq] at hm
      exact hm.2
    exact (holds_part_of (fun _ => h1) (by omega) (Int.le_refl _) (by omega)).mpr fun p g1 g2 => hx p (by omega) (by omega)
  · rintro ⟨p1, p2⟩ p g1 g2
    have p1' := (holds_part_of (fun _ => h1) (Int.le_refl _) z1 (by omega)).mp p1
    by_cases c1 : p < t.f + t.half
    · exact p1' p (by omega) (by omega)
    · by_cases c2 : t.par p < t.f + t.half
      · have q := p1' (t.par p) (by rw [par]; omega) (by omega)
        rw [par, par] at q
        rw [show t.f + t.s + t.l - 1 - (t.f + t.s + t.l - 1 - p) = p by omega] at q
        rw [par]
        unfold Ti.led at q ⊢
        cases hd : t.d with
        | true =>
          rw [hd] at q
          simp only [if_true] at q ⊢
          omega
        | false =>
          rw [hd] at q
          have := ha hd
          simp only [Bool.false_eq_true, if_false] at q ⊢
          omega
      · rw [par] at c2
        have hodd : (t.f + t.l - t.s) % 2 = 1 := by omega
        have hp : p = t.f + t.half := by omega
        cases hd : t.d with
        | true =>
          have q := (holds_part_of (fun _ => h1) (by omega) (Int.le_refl _) (by omega)).mp (p2 (by rw [hd, hodd]; rfl))
          exact q p (by omega) (by omega)
        | false =>
          have := ha hd
          have e : t.par p = p := by rw [par]; omega
          rw [e]
          unfold Ti.led
          rw [hd, this]
          simp
/-- what can be said of a tie that some notes keep -/
def Sat (ls : List Ti) (x : Int → Int) : Prop := ∀ t ∈ ls, Holds x t
theorem sat_nil {x : Int → Int} : Sat [] x := fun _ h => by cases h
theorem sat_cons {x : Int → Int} {t : Ti} {ls : List Ti} : Sat (t :: ls) x ↔ Holds x t ∧ Sat ls x := by
  unfold Sat
  constructor
  · intro h
    exact ⟨h t List.mem_cons_self, fun u hu => h u (List.mem_cons_of_mem _ hu)⟩
  · rintro ⟨h1, h2⟩ u hu
    rcases List.mem_cons.mp hu with e | hu
    · rw [e]; exact h1
    · exact h2 u hu
theorem sat_append {x : Int → Int} {ls ms : List Ti} : Sat (ls ++ ms) x ↔ Sat ls x ∧ Sat ms x := by
  induction ls with
  | nil => simp [sat_nil]
  | cons t ls ih => rw [List.cons_append, sat_cons, sat_cons, ih, and_assoc]
structure EvenOut (G : Grid) (e : Int) (t : Ti) (ls : List Ti) : Prop where
  gd : ∀ u ∈ ls, Gd G e u
  sat : ∀ x, Sat ls x ↔ Holds x t
  two : ls.length ≤ 2
  one : (ls.filter fun u => !u.isPin).length ≤ 1
  pin : t.isPin = true → ls = [t]
  /-- two only if the tie is no pin -/
  cut : ls.length = 2 → (ls.filter fun u => !u.isPin).length ≤ 1 ∧ t.isPin = false
theorem even1_ok {G : Grid} {e : Int} {t : Ti} (w : Wk G e t) (hle : t.f ≤ t.s) (hs : ∃ x, Holds x t) : EvenOut G e t (evened1 t) := by
  obtain ⟨x0, hx0⟩ := hs
  unfold evened1
  cases h1 : t.isOne with
  | true =>
    obtain ⟨p2, p3⟩ := one_iff.mp h1
    rw [if_pos rfl]
    cases hd : t.d with
    | true =>
      have hp : t.isPin = true := isPin_iff.mpr ⟨hd, p2, p3⟩
      rw [if_pos (by simp)]
      refine ⟨fun u hu => ?_, fun x => by rw [sat_cons]; simp [sat_nil], by simp, by simp [hp], fun _ => rfl, fun z => by simp at z⟩
      have e1 := List.mem_singleton.mp hu
      rw [e1]
      exact ⟨w, .inr hp⟩
    | false =>
      have ha := one_up w.l1 h1 hd hx0
      have hp : t.isPin = false := by unfold Ti.isPin; rw [hd]; rfl
      rw [if_neg (by rw [ha]; simp)]
      refine ⟨(fun u hu => nomatch hu), fun x => ⟨fun _ => one_up_all h1 hd ha, fun _ => sat_nil⟩, by simp, by simp, fun z => ?_, fun z => by simp at z⟩
      rw [hp] at z
      cases z
  | false =>
    have hp : t.isPin = false := by unfold Ti.isPin; rw [h1]; simp
    rw [if_neg (by decide)]
    by_cases h2 : (!t.b || decide (t.f + t.l - t.s ≤ 0)) = true
    · rw [if_pos h2]
      refine ⟨fun u hu => ?_, fun x => by rw [sat_cons]; simp [sat_nil], by simp, by simp [hp], fun _ => rfl, fun z => by simp at z⟩
      have e1 := List.mem_singleton.mp hu
      rw [e1]
      refine ⟨w, .inl ?_⟩
      simp only [Bool.or_eq_true, Bool.not_eq_true', decide_eq_true_eq] at h2
      have hl := w.l1
      rcases h2 with hb | hb
      · have := not_one h1 hb
        exact ⟨by omega, fun z => by rw [hb] at z; cases z⟩
      · exact ⟨by omega, fun _ => by omega⟩
    · rw [if_neg h2]
      simp only [Bool.or_eq_true, Bool.not_eq_true', decide_eq_true_eq, not_or, Bool.not_eq_false, Int.not_le] at h2
      obtain ⟨hb, hm⟩ := h2
      have L : Lap t := ⟨hb, hle, by omega⟩
      have hl := w.nm hb
      obtain ⟨z1, z2, z3, z4⟩ := L.half hl
      have ha : t.d = false → t.a = 0 := fun hd => lap_up L hd hx0
      have D := w.al.bk hl hb
      have hc := G.hf D
      have hfe := w.fe
      have hse := w.se
      have hf0 := w.f0
      have hbd := w.al
      have ehalf : t.half = (t.tu + 1) / 2 - t.f := by
        unfold Ti.half Ti.tu
        congr 2
        omega
      -- the first half
      have e1 : t.part 0 t.half = tie t.f (t.s + t.l - t.half) t.half t.a t.d true := by
        rw [part_eq z1, hb]
        simp only [if_true]
        congr 1 <;> omega
      have g1 : Gd G e (t.part 0 t.half) := by
        rw [e1]
        refine ⟨wk_tie hf0 (by omega) z1 (by omega) (by omega) hbd.f ?_ ?_ ?_ (fun _ z => by cases z) (fun _ _ => ?_), .inl ⟨?_, fun _ => ?_⟩⟩
        · have := G.mir hc.1 D
          rwa [show t.tu + 1 - (t.tu + 1) / 2 = t.s + t.l - t.half by unfold Ti.tu at ehalf ⊢; omega] at this
        · rw [ehalf, show t.f + ((t.tu + 1) / 2 - t.f) = (t.tu + 1) / 2 by omega]
          exact hc.1
        · rw [show t.s + t.l - t.half + t.half = t.s + t.l by omega]
          exact hbd.se
        · rw [show t.f + (t.s + t.l - t.half) + t.half = t.tu + 1 by unfold Ti.tu; omega]
          exact D
        · show t.f < t.s + t.l - t.half
          omega
        · show t.f + t.half ≤ t.s + t.l - t.half
          omega
      have np1 : (t.part 0 t.half).isPin = false := by
        cases q : (t.part 0 t.half).isPin with
        | false => rfl
        | true =>
          obtain ⟨_, q2, _⟩ := isPin_iff.mp q
          rw [e1] at q2
          have : t.f = t.s + t.l - t.half := q2
          omega
      by_cases hc2 : (t.d && ((t.f + t.l - t.s) % 2 == 1)) = true
      · rw [if_pos hc2]
        simp only [Bool.and_eq_true, beq_iff_eq] at hc2
        obtain ⟨hd, hodd⟩ := hc2
        have e2 : t.part t.half 1 = tie (t.f + t.half) (t.f + t.half) 1 t.a true false := by
          rw [part_eq (Int.le_refl _), hb, hd]
          simp only [if_true]
          unfold tie
          congr 1
          omega
        have p2 : (t.part t.half 1).isPin = true := by
          rw [e2]
          exact isPin_iff.mpr ⟨rfl, rfl, rfl⟩
        have g2 : Gd G e (t.part t.half 1) := by
          refine ⟨?_, .inr p2⟩
          rw [e2]
          have b1 : G.B (t.f + t.half) := by
            rw [ehalf, show t.f + ((t.tu + 1) / 2 - t.f) = (t.tu + 1) / 2 by omega]
            exact hc.1
          have b2 : G.B (t.f + t.half + 1) := by
            rw [show t.f + t.half + 1 = (t.tu + 1 + 1) / 2 by unfold Ti.half Ti.tu; omega]
            exact hc.2
          exact wk_tie (by omega) (by omega) (Int.le_refl _) (by omega) (by omega) b1 b1 b2 b2 (fun z => by omega) (fun z => by omega)
        refine ⟨fun u hu => ?_, fun x => ?_, by simp, by simp [np1, p2], fun z => (by rw [hp] at z; cases z), fun _ => ⟨by simp [np1, p2], hp⟩⟩
        · rcases List.mem_cons.mp hu with q | q
          · rw [q]; exact g1
          · rw [List.mem_singleton.mp q]; exact g2
        · rw [sat_cons, sat_cons, holds_lap L hl ha]
          simp [sat_nil, hd, hodd]
      · rw [if_neg hc2]
        refine ⟨fun u hu => ?_, fun x => ?_, by simp, by simp [np1], fun z => (by rw [hp] at z; cases z), fun z => by simp at z⟩
        · rw [List.mem_singleton.mp hu]; exact g1
        · rw [sat_cons, holds_lap L hl ha]
          simp [sat_nil, hc2]
theorem even_ok {G : Grid} {e : Int} {t : Ti} (w : Wk G e t) (hs : ∃ x, Holds x t) : EvenOut G e t (evened t) := by
  unfold evened
  by_cases h : t.s < t.f
  · rw [if_pos h]
    have hp : t.isPin = false := by
      cases q : t.isPin with
      | false => rfl
      | true =>
        have := (isPin_iff.mp q).2.1
        omega
    have r := even1_ok (wk_inv w) (show t.s ≤ t.f by omega) (by obtain ⟨x, hx⟩ := hs; exact ⟨x, holds_inv.mpr hx⟩)
    exact ⟨r.gd, fun x => (r.sat x).trans holds_inv, r.two, r.one, fun z => (by rw [hp] at z; cases z), fun z => ⟨r.one, hp⟩⟩
  · rw [if_neg h]
    exact even1_ok w (by omega) hs
end Lad

-- M6
set_option linter.all false
set_option maxRecDepth 10000
namespace Lad
def np (ls : List Ti) : Nat := (ls.filter fun u => !u.isPin).length
theorem np_append (a b : List Ti) : np (a ++ b) = np a + np b := by
  unfold np
  rw [List.filter_append, List.length_append]
theorem np_cons (t : Ti) (b : List Ti) : np (t :: b) = (if t.isPin then 0 else 1) + np b := by
  unfold np
  rw [List.filter_cons]
  cases t.isPin <;> simp <;> omega
theorem np_le (a : List Ti) : np a ≤ a.length := List.length_filter_le _ _
theorem Wk.mono {G : Grid} {e e' : Int} {t : Ti} (h : Wk G e t) (h1 : t.f + t.l ≤ e') (h2 : t.s + t.l ≤ e') : Wk G e' t := ⟨h.f0, h.s0, h.l1, h1, h2, h.nm, h.al⟩
theorem Gd.mono {G : Grid} {e e' : Int} {t : Ti} (h : Gd G e t) (h2 : t.s + t.l ≤ e') : Gd G e' t := ⟨h.wk.mono (by have := h.le; omega) h2, h.sp⟩
/-- what becomes of a link that is read through the cutter -/
structure ReadOut (G : Grid) (e : Int) (c t : Ti) (ls : List Ti) : Prop where
  gd : ∀ u ∈ ls, Gd G e u
  sat : ∀ x, Holds x c → (Sat ls x ↔ Holds x t)
  np : np ls ≤ np [t]
  len : ls.length ≤ 1 + Lad.np [t]
theorem ReadOut.of {G : Grid} {e : Int} {c t r : Ti} (w : Wk G e r) (hs : ∃ x, Holds x r) (eq : ∀ x, Holds x c → (Holds x r ↔ Holds x t)) (hp : t.isPin = true → r.isPin = true) : ReadOut G e c t (evened r) := by
  have q := even_ok w hs
  refine ⟨q.gd, fun x hx => (q.sat x).trans (eq x hx), ?_, ?_⟩
  · rw [np_cons]
    cases ht : t.isPin with
    | true =>
      rw [q.pin (hp ht), np_cons, hp ht]
      exact Nat.le_refl _
    | false => exact Nat.le_trans q.one (by simp)
  · rw [np_cons]
    cases ht : t.isPin with
    | true =>
      rw [q.pin (hp ht)]
      simp
    | false => exact Nat.le_trans q.two (by simp only [Bool.false_eq_true, if_false]; omega)
theorem read_ok {G : Grid} {e : Int} {c t : Ti} (hc : Gd G e c) (he : c.s + c.l = e) (ht : Gd G e t) (hl : t.s + t.l = e → t.l ≤ c.l) (hs : ∃ x, Holds x c ∧ Holds x t) : ReadOut G (e - 1) c t (evened (readBy c t)) := by
  obtain ⟨x0, h0c, h0t⟩ := hs
  have hl1 := ht.wk.l1
  have hle := ht.le
  have hte := ht.wk.se
  unfold readBy
  cases cp : c.isPin with
  | true =>
    rw [if_pos rfl]
    obtain ⟨c1, c2, c3⟩ := isPin_iff.mp cp
    unfold readPin
    by_cases h1 : t.s < c.s
    · rw [if_pos h1]
      exact .of (ht.wk.mono (by omega) (by omega)) ⟨x0, h0t⟩ (fun _ _ => Iff.rfl) (fun z => z)
    · rw [if_neg h1]
      cases tp : t.isPin with
      | true =>
        rw [if_pos rfl]
        obtain ⟨t1, t2, t3⟩ := isPin_iff.mp tp
        have hcx := fun x => holds_pin (x := x) cp
        have htx := fun x => holds_pin (x := x) tp
        have q1 := (hcx x0).mp h0c t.s (by omega) (by omega)
        have q2 := (htx x0).mp h0t t.s (by omega) (by omega)
        have e1 : t.join c = tie t.f t.s t.l 0 false false := by
          rw [pin_join cp hl1 ht.wk.nm (by omega) (by omega), t1, t3]
          congr 1
          omega
        have e2 : evened (t.join c) = [] := by
          rw [e1]
          unfold evened evened1 Ti.isOne tie
          simp [t2]
        rw [e2]
        refine ⟨(fun u hu => nomatch hu), fun x hx => ⟨fun _ => ?_, fun _ => sat_nil⟩, by simp [Lad.np], by simp⟩
        refine (htx x).mpr fun p g1 g2 => ?_
        have := (hcx x).mp hx p (by omega) (by omega)
        omega
      | false =>
        rw [if_neg (by decide)]
        have ev := ht.ev tp
        have hlt := ev.lt
        have eq := fun x => holds_pin_join2 (x := x) cp hl1 ht.wk.nm (show c.s ≤ t.s by omega) (by omega)
        have e1 := pin_join2 cp hl1 ht.wk.nm (show c.s ≤ t.s by omega) (by omega)
        refine .of ?_ ⟨x0, (eq x0 h0c).mpr h0t⟩ eq (fun z => by rw [tp] at z; cases z)
        rw [e1]
        have a := ht.wk.al
        have f0 := ht.wk.f0
        exact wk_tie f0 f0 hl1 (by omega) (by omega) a.f a.f a.fe a.fe (fun _ _ => by rw [show t.f - t.f = 0 by omega]; exact G.d0) (fun _ z => by cases z)
  | false =>
    rw [if_neg (by decide)]
    have ec := hc.ev cp
    have ac := hc.wk.al
    have cf := hc.wk.f0
    have hclt := ec.lt
    unfold readLink
    cases tp : t.isPin with
    | true =>
      rw [if_pos rfl]
      obtain ⟨t1, t2, t3⟩ := isPin_iff.mp tp
      by_cases h1 : t.f < c.s
      · rw [if_pos h1]
        exact .of (ht.wk.mono (by omega) (by omega)) ⟨x0, h0t⟩ (fun _ _ => Iff.rfl) (fun z => z)
      · rw [if_neg h1]
        have eq := fun x => holds_pin_way (x := x) ec tp hl1 (show c.s ≤ t.f by omega) (by omega)
        obtain ⟨a, e1⟩ := pin_way ec tp hl1 (show c.s ≤ t.f by omega) (by omega)
        have T := way_to ec ac (show c.s ≤ t.f by omega) hl1 (by omega) ht.wk.al.f ht.wk.al.fe
        have lo := T.lo
        have hi := T.hi
        refine .of ?_ ⟨x0, (eq x0 h0c).mpr h0t⟩ eq (fun _ => ?_)
        · rw [e1]
          exact wk_tie (by omega) (by omega) hl1 (by omega) (by omega) T.b1 T.b1 T.b2 T.b2 (fun _ _ => by rw [show wayTo c t.f t.l - wayTo c t.f t.l = 0 by omega]; exact G.d0) (fun _ z => by cases z)
        · rw [e1]
          exact isPin_iff.mpr ⟨rfl, rfl, rfl⟩
    | false =>
      rw [if_neg (by decide)]
      have et := ht.ev tp
      have htlt := et.lt
      -- the second part
      have two : Wk G e (readTwo c t) ∧ (readTwo c t).s + (readTwo c t).l < e ∧ (readTwo c t).f + (readTwo c t).l < e ∧ (∀ x, Holds x c → (Holds x (readTwo c t) ↔ Holds x t)) ∧ Wk G (e - 1) (readTwo c t) := by
        unfold readTwo
        by_cases h1 : c.s ≤ t.s
        · rw [if_pos h1]
          have w := wk_read ec ac cf he ht.wk h1 (by omega)
          have w1 := w.fe
          have w2 := w.se
          exact ⟨w.mono (by omega) (by omega), by omega, by omega, fun x hx => holds_read ec hl1 h1 (by omega) hx, w⟩
        · rw [if_neg h1]
          exact ⟨ht.wk, by omega, by omega, fun _ _ => Iff.rfl, ht.wk.mono (by omega) (by omega)⟩
      generalize readTwo c t = u at two
      obtain ⟨u1, u2, u3, u4, u5⟩ := two
      have h0u := (u4 x0 h0c).mpr h0t
      unfold readOne
      by_cases h2 : c.s ≤ u.f
      · rw [if_pos h2]
        have wi := wk_inv u1
        have eq : ∀ x, Holds x c → (Holds x (u.inv.join (c.way u.f).inv).inv ↔ Holds x t) := fun x hx => by
          rw [holds_inv]
          exact ((holds_read (t := u.inv) ec u1.l1 h2 (show u.f + u.l ≤ _ by omega) hx).trans holds_inv).trans (u4 x hx)
        exact .of (wk_inv (wk_read ec ac cf he wi h2 (show u.s + u.l < e by omega))) ⟨x0, (eq x0 h0c).mpr h0t⟩ eq (fun z => by rw [tp] at z; cases z)
      · rw [if_neg h2]
        exact .of u5 ⟨x0, h0u⟩ u4 (fun z => by rw [tp] at z; cases z)
end Lad

-- M7
set_option linter.all false
set_option maxRecDepth 10000
namespace Lad
/-! ### a cut -/
structure Cut where
  lo : Int
  hi : Int
  c : Ti
def Ti.pre (c : Ti) (q : Int) : Int := if c.b then c.tu - q else q - c.sh
def CutHolds (k : Cut) (x : Int → Int) : Prop := ∀ q, k.lo ≤ q → q < k.hi → x q = k.c.led (x (k.c.pre q))
def CutsHold (ks : List Cut) (x : Int → Int) : Prop := ∀ k ∈ ks, CutHolds k x
def endOf (ls : List Ti) : Int := ls.foldl (fun m t => max m (t.s + t.l)) 0
def shortened (c : Ti) (lo e : Int) : List Ti := if lo - c.s = 0 then [] else [c.part (if c.b then e - lo else 0) (lo - c.s)]
def leftOf (c : Ti) (ms : List Ti) : List Ti := (ms.map (readBy c)).flatMap evened
def lowOf (c : Ti) (ms : List Ti) : Int := max (endOf (leftOf c ms)) c.s
def nextOf (c : Ti) (ms : List Ti) (e : Int) : List Ti := leftOf c ms ++ shortened c (lowOf c ms) e

theorem fold_ge : ∀ (ls : List Ti) (m : Int), m ≤ ls.foldl (fun m t => max m (t.s + t.l)) m ∧ ∀ t ∈ ls, t.s + t.l ≤ ls.foldl (fun m t => max m (t.s + t.l)) m
  | [], m => ⟨Int.le_refl _, fun _ h => nomatch h⟩
  | u :: ls, m => by
    obtain ⟨h1, h2⟩ := fold_ge ls (max m (u.s + u.l))
    rw [List.foldl_cons]
    refine ⟨by omega, fun t ht => ?_⟩
    rcases List.mem_cons.mp ht with e | ht
    · rw [e]; omega
    · exact h2 t ht
theorem fold_at : ∀ (ls : List Ti) (m : Int), ls.foldl (fun m t => max m (t.s + t.l)) m = m ∨ ∃ t ∈ ls, ls.foldl (fun m t => max m (t.s + t.l)) m = t.s + t.l
  | [], m => .inl rfl
  | u :: ls, m => by
    rw [List.foldl_cons]
    rcases fold_at ls (max m (u.s + u.l)) with h | ⟨t, ht, h⟩
    · rw [h]
      by_cases hm : m ≤ u.s + u.l
      · exact .inr ⟨u, List.mem_cons_self, by omega⟩
      · exact .inl (by omega)
    · exact .inr ⟨t, List.mem_cons_of_mem _ ht, h⟩
theorem endOf_ge {ls : List Ti} {t : Ti} (h : t ∈ ls) : t.s + t.l ≤ endOf ls := (fold_ge ls 0).2 t h
theorem endOf_nn (ls : List Ti) : 0 ≤ endOf ls := (fold_ge ls 0).1
theorem endOf_at {ls : List Ti} {m : Int} (h0 : 0 ≤ m) (h : ∀ t ∈ ls, t.s + t.l ≤ m) : endOf ls ≤ m := by
  rcases fold_at ls 0 with e | ⟨t, ht, e⟩
  · unfold endOf
    omega
  · have := h t ht
    unfold endOf
    omega
/-- all links along the grid within e -/
def All (G : Grid) (e : Int) (ls : List Ti) : Prop := ∀ t ∈ ls, Gd G e t
theorem holds_pre {x : Int → Int} {c : Ti} : Holds x c ↔ ∀ q, c.s ≤ q → q < c.s + c.l → x q = c.led (x (c.pre q)) := by
  unfold Holds Ti.par Ti.pre Ti.tu Ti.sh
  constructor
  · intro h q h1 h2
    have r := h (if c.b then c.f + c.s + c.l - 1 - q else q - (c.s - c.f)) (by split <;> omega) (by split <;> omega)
    rw [← r]
    congr 1
    split <;> omega
  · intro h p h1 h2
    have r := h (if c.b then c.f + c.s + c.l - 1 - p else p + (c.s - c.f)) (by split <;> omega) (by split <;> omega)
    rw [r]
    congr 2
    split <;> omega
theorem pre_led {c : Ti} {st n : Int} (hn : 1 ≤ n) {q : Int} {x : Int → Int} : True := trivial
/-- what is left of the cutter, and the cut, say what it says -/
theorem cut_short {G : Grid} {e lo : Int} {c : Ti} (hc : Gd G e c) (he : c.s + c.l = e) (h1 : c.s ≤ lo) (h2 : lo < e) (x : Int → Int) : Holds x c ↔ Sat (shortened c lo e) x ∧ CutHolds ⟨lo, e, c⟩ x := by
  have hl1 := hc.wk.l1
  unfold shortened
  by_cases h : lo - c.s = 0
  · rw [if_pos h, holds_pre]
    have e1 : lo = c.s := by omega
    unfold CutHolds
    rw [he, e1]
    simp [sat_nil]
  · rw [if_neg h, sat_cons, holds_part_of hc.wk.nm (by split <;> omega) (by omega) (by split <;> omega)]
    unfold CutHolds
    constructor
    · intro hx
      refine ⟨⟨(fun p g1 g2 => hx p (by split at g1 <;> omega) (by split at g2 <;> omega)), sat_nil⟩, fun q g1 g2 => ?_⟩
      have g1' : lo ≤ q := g1
      have g2' : q < e := g2
      exact holds_pre.mp hx q (by omega) (by omega)
    · rintro ⟨⟨p1, _⟩, p2⟩
      refine holds_pre.mpr fun q g1 g2 => ?_
      by_cases hq : lo ≤ q
      · exact p2 q hq (by show q < e; omega)
      · have r := p1 (c.pre q) (by unfold Ti.pre Ti.tu Ti.sh; split <;> omega) (by unfold Ti.pre Ti.tu Ti.sh; split <;> omega)
        rw [← r]
        congr 1
        unfold Ti.par Ti.pre Ti.tu Ti.sh
        split <;> omega
structure CutOk (G : Grid) (k : Cut) : Prop where
  gd : Gd G k.hi k.c
  e : k.c.s + k.c.l = k.hi
  s : k.c.s ≤ k.lo
  lt : k.lo < k.hi
  b : G.B k.lo
structure StepOut (G : Grid) (e : Int) (c : Ti) (ls ms : List Ti) : Prop where
  gd : All G (lowOf c ms) (nextOf c ms e)
  sat : ∀ x, Sat ls x ↔ Sat (nextOf c ms e) x ∧ CutHolds ⟨lowOf c ms, e, c⟩ x
  cut : CutOk G ⟨lowOf c ms, e, c⟩
  nn : 0 ≤ lowOf c ms
  np : np (nextOf c ms e) ≤ np (c :: ms)
  len : (nextOf c ms e).length ≤ (c :: ms).length + Lad.np (c :: ms)
theorem left_ok {G : Grid} {e : Int} {c : Ti} (hc : Gd G e c) (he : c.s + c.l = e) : ∀ (ms : List Ti), All G e ms → (∀ t ∈ ms, t.s + t.l = e → t.l ≤ c.l) → (∃ x, Holds x c ∧ Sat ms x) →
    All G (e - 1) (leftOf c ms) ∧ (∀ x, Holds x c → (Sat (leftOf c ms) x ↔ Sat ms x)) ∧ np (leftOf c ms) ≤ np ms ∧ (leftOf c ms).length ≤ ms.length + np ms
  | [], _, _, _ => ⟨(fun _ h => nomatch h), fun _ _ => Iff.rfl, Nat.le_refl _, Nat.le_refl _⟩
  | t :: ms, h1, h2, h3 => by
    obtain ⟨x0, hx1, hx2⟩ := h3
    obtain ⟨hx3, hx4⟩ := sat_cons.mp hx2
    obtain ⟨i1, i2, i3, i4⟩ := left_ok hc he ms (fun u hu => h1 u (List.mem_cons_of_mem _ hu)) (fun u hu => h2 u (List.mem_cons_of_mem _ hu)) ⟨x0, hx1, hx4⟩
    have r := read_ok hc he (h1 t List.mem_cons_self) (h2 t List.mem_cons_self) ⟨x0, hx1, hx3⟩
    have e1 : leftOf c (t :: ms) = evened (readBy c t) ++ leftOf c ms := by
      unfold leftOf
      rw [List.map_cons, List.flatMap_cons]
    rw [e1]
    refine ⟨fun u hu => ?_, fun x hx => ?_, ?_, ?_⟩
    · rcases List.mem_append.mp hu with q | q
      · exact r.gd u q
      · exact i1 u q
    · rw [sat_append, sat_cons, r.sat x hx, i2 x hx]
    · have := r.np
      rw [np_append, np_cons]
      rw [np_cons] at this
      have z : np [] = 0 := rfl
      omega
    · have := r.len
      rw [List.length_append, List.length_cons, np_cons]
      rw [np_cons] at this
      have z : np [] = 0 := rfl
      omega
theorem short_pin {c : Ti} (st : Int) {n : Int} (hn : 1 ≤ n) (hp : c.isPin = true) : (c.part st n).isPin = true := by
  obtain ⟨c1, c2, c3⟩ := isPin_iff.mp hp
  rw [part_eq hn, c1, c3]
  refine isPin_iff.mpr ⟨rfl, ?_, rfl⟩
  show c.f + st = c.s + st
  omega
theorem step_ok {G : Grid} {e : Int} {c : Ti} {ls ms : List Ti} (hls : ∀ x, Sat ls x ↔ Holds x c ∧ Sat ms x) (hc : Gd G e c) (he : c.s + c.l = e) (hm : All G e ms) (hl : ∀ t ∈ ms, t.s + t.l = e → t.l ≤ c.l) (hs : ∃ x, Sat ls x) : StepOut G e c ls ms := by
  obtain ⟨x0, hx0⟩ := hs
  obtain ⟨hx1, hx2⟩ := (hls x0).mp hx0
  obtain ⟨a1, a2, a3, a4⟩ := left_ok hc he ms hm hl ⟨x0, hx1, hx2⟩
  have hcs := hc.wk.s0
  have hl1 := hc.wk.l1
  have le1 : endOf (leftOf c ms) ≤ e - 1 := endOf_at (by omega) fun t ht => (a1 t ht).wk.se
  have lo1 : c.s ≤ lowOf c ms := by unfold lowOf; omega
  have lo2 : lowOf c ms < e := by unfold lowOf; omega
  have lo3 : endOf (leftOf c ms) ≤ lowOf c ms := by unfold lowOf; omega
  have hb : G.B (lowOf c ms) := by
    by_cases q : c.s < endOf (leftOf c ms)
    · have e1 : lowOf c ms = endOf (leftOf c ms) := by unfold lowOf; omega
      rcases fold_at (leftOf c ms) 0 with z | ⟨t, ht, z⟩
      · unfold endOf at q
        omega
      · rw [e1]
        unfold endOf
        rw [z]
        exact (a1 t ht).wk.al.se
    · have e1 : lowOf c ms = c.s := by unfold lowOf; omega
      rw [e1]
      exact hc.wk.al.s
  have hcle := hc.le
  have short : (∀ u ∈ shortened c (lowOf c ms) e, Gd G (lowOf c ms) u) ∧ np (shortened c (lowOf c ms) e) ≤ np [c] ∧ (shortened c (lowOf c ms) e).length ≤ 1 := by
    unfold shortened
    by_cases h : lowOf c ms - c.s = 0
    · rw [if_pos h]
      exact ⟨(fun _ h => nomatch h), Nat.zero_le _, Nat.zero_le _⟩
    · rw [if_neg h]
      generalize lowOf c ms = lo at *
      have n1 : 1 ≤ lo - c.s := by omega
      refine ⟨fun u hu => ?_, ?_, Nat.le_refl _⟩
      · rw [List.mem_singleton.mp hu]
        have a := hc.wk.al
        have f0 := hc.wk.f0
        have fe := hc.wk.fe
        cases hcb : c.b with
        | false =>
          have e1 : c.part (if false = true then e - lo else 0) (lo - c.s) = tie c.f c.s (lo - c.s) c.a c.d false := by
            rw [part_eq n1, hcb]
            simp
          rw [e1]
          have wl : G.B (c.f + (lo - c.s)) := by
            by_cases h1 : 1 < c.l
            · have := G.sh hb (G.neg (a.st h1 hcb))
              unfold Ti.sh at this
              rwa [show lo + -(c.s - c.f) = c.f + (lo - c.s) by omega] at this
            · have : lo - c.s = 1 := by omega
              have := a.fe
              rwa [show c.f + c.l = c.f + (lo - c.s) by omega] at this
          refine ⟨wk_tie f0 hcs n1 (by omega) (by omega) a.f a.s wl (by rw [show c.s + (lo - c.s) = lo by omega]; exact hb) (fun h1 _ => a.st (by omega) hcb) (fun _ z => nomatch z), ?_⟩
          rcases hc.sp with q | q
          · exact .inl ⟨q.1, fun z => nomatch z⟩
          · obtain ⟨c1, c2, c3⟩ := isPin_iff.mp q
            exact .inr (isPin_iff.mpr ⟨c1, c2, rfl⟩)
        | true =>
          have hnm := hc.wk.nm hcb
          have np0 : c.isPin = false := by
            cases q : c.isPin with
            | false => rfl
            | true =>
              have := (isPin_iff.mp q).2.2
              rw [hcb] at this
              cases this
          have ev := hc.ev np0
          have hap := ev.ap hcb
          have D := a.bk hnm hcb
          have e1 : c.part (if true = true then e - lo else 0) (lo - c.s) = tie (c.f + (e - lo)) c.s (lo - c.s) c.a c.d true := by
            rw [part_eq n1, hcb]
            simp only [if_true]
            congr 1
            omega
          rw [e1]
          refine ⟨wk_tie (by omega) hcs n1 (by omega) (by omega) ?_ a.s ?_ (by rw [show c.s + (lo - c.s) = lo by omega]; exact hb) (fun _ z => nomatch z) (fun _ _ => ?_), .inl ⟨?_, fun _ => ?_⟩⟩
          · have := G.mir hb D
            unfold Ti.tu at this
            rwa [show c.f + c.s + c.l - 1 + 1 - lo = c.f + (e - lo) by omega] at this
          · rw [show c.f + (e - lo) + (lo - c.s) = c.f + c.l by omega]
            exact a.fe
          · unfold Ti.tu at D
            rwa [show c.f + c.s + c.l - 1 + 1 = c.f + (e - lo) + c.s + (lo - c.s) by omega] at D
          · show c.f + (e - lo) < c.s
            omega
          · show c.f + (e - lo) + (lo - c.s) ≤ c.s
            omega
      · rw [np_cons, np_cons]
        cases hp : c.isPin with
        | false =>
          have z : np [] = 0 := rfl
          simp only [Bool.false_eq_true, if_false]
          have : ∀ b : Bool, (if b = true then 0 else 1) ≤ 1 := fun b => by cases b <;> decide
          have := this (c.part (if c.b = true then e - lo else 0) (lo - c.s)).isPin
          omega
        | true =>
          rw [short_pin _ n1 hp]
          exact Nat.le_refl _
  obtain ⟨s1, s2, s3⟩ := short
  refine ⟨fun u hu => ?_, fun x => ?_, ⟨hc, he, lo1, lo2, hb⟩, by omega, ?_, ?_⟩
  · rcases List.mem_append.mp hu with q | q
    · exact (a1 u q).mono (Int.le_trans (endOf_ge q) lo3)
    · exact s1 u q
  · unfold nextOf
    rw [hls, sat_append, cut_short hc he lo1 lo2]
    constructor
    · rintro ⟨⟨p1, p2⟩, p3⟩
      have hx : Holds x c := (cut_short hc he lo1 lo2 x).mpr ⟨p1, p2⟩
      exact ⟨⟨(a2 x hx).mpr p3, p1⟩, p2⟩
    · rintro ⟨⟨p3, p1⟩, p2⟩
      have hx : Holds x c := (cut_short hc he lo1 lo2 x).mpr ⟨p1, p2⟩
      exact ⟨⟨p1, p2⟩, (a2 x hx).mp p3⟩
  · unfold nextOf
    rw [np_append, np_cons]
    rw [np_cons] at s2
    have z : np [] = 0 := rfl
    omega
  · unfold nextOf
    rw [List.length_append, List.length_cons, np_cons]
    omega
end Lad

-- M8
set_option linter.all false
set_option maxRecDepth 10000
namespace Lad
/-! ### turn by turn -/
structure RInv (G : Grid) (size : Int) (n0 n1 : Nat) (T0 L : List Ti) (C : List Cut) (e : Int) : Prop where
  gd : All G e L
  e0 : 0 ≤ e
  e1 : e ≤ size
  be : G.B e
  sat : ∀ x, Sat T0 x ↔ Sat L x ∧ CutsHold C x
  ok : ∀ k ∈ C, CutOk G k ∧ e ≤ k.lo ∧ k.hi ≤ size
  ord : C.Pairwise fun a b => b.hi ≤ a.lo
  ex : ∃ x, Sat T0 x
  np : np L ≤ n0
  len : L.length ≤ n1 + C.length * n0
  cnt : C.length + G.rk e ≤ G.rk size
theorem cuts_append {C : List Cut} {k : Cut} {x : Int → Int} : CutsHold (C ++ [k]) x ↔ CutsHold C x ∧ CutHolds k x := by
  unfold CutsHold
  constructor
  · intro h
    exact ⟨fun j hj => h j (List.mem_append_left _ hj), h k (List.mem_append_right _ List.mem_cons_self)⟩
  · rintro ⟨h1, h2⟩ j hj
    rcases List.mem_append.mp hj with q | q
    · exact h1 j q
    · rw [List.mem_singleton.mp q]; exact h2
theorem endOf_mem {ls : List Ti} (h : ls ≠ []) (hp : ∀ t ∈ ls, 0 ≤ t.s + t.l) : ∃ t ∈ ls, endOf ls = t.s + t.l := by
  rcases fold_at ls 0 with e | ⟨t, ht, e⟩
  · cases ls with
    | nil => exact absurd rfl h
    | cons t ls =>
      refine ⟨t, List.mem_cons_self, ?_⟩
      have h1 := endOf_ge (ls := t :: ls) (t := t) List.mem_cons_self
      have h2 := hp t List.mem_cons_self
      unfold endOf at h1 ⊢
      omega
  · exact ⟨t, ht, e⟩
theorem turn_ok {G : Grid} {size : Int} {n0 n1 : Nat} {T0 L A Z : List Ti} {c : Ti} {C : List Cut} {e : Int} (I : RInv G size n0 n1 T0 L C e) (hL : L = A ++ c :: Z) (hc : c.s + c.l = endOf L) (hl : ∀ t ∈ A ++ Z, t.s + t.l = endOf L → t.l ≤ c.l) :
    RInv G size n0 n1 T0 (nextOf c (A ++ Z) (endOf L)) (C ++ [⟨lowOf c (A ++ Z), endOf L, c⟩]) (lowOf c (A ++ Z)) ∧ lowOf c (A ++ Z) < endOf L ∧ endOf L ≤ e := by
  have hcm : c ∈ L := by rw [hL]; simp
  have hle : endOf L ≤ e := endOf_at I.e0 fun t ht => (I.gd t ht).wk.se
  have hm : ∀ t ∈ A ++ Z, t ∈ L := fun t ht => by
    rw [hL]
    rcases List.mem_append.mp ht with q | q
    · exact List.mem_append_left _ q
    · exact List.mem_append_right _ (List.mem_cons_of_mem _ q)
  have hsat : ∀ x, Sat L x ↔ Holds x c ∧ Sat (A ++ Z) x := fun x => by
    rw [hL, sat_append, sat_cons, sat_append]
    constructor
    · rintro ⟨a, b, d⟩; exact ⟨b, a, d⟩
    · rintro ⟨b, a, d⟩; exact ⟨a, b, d⟩
  have r := step_ok hsat ((I.gd c hcm).mono (by omega)) hc (fun t ht => (I.gd t (hm t ht)).mono (endOf_ge (hm t ht))) hl (by obtain ⟨x, hx⟩ := I.ex; exact ⟨x, ((I.sat x).mp hx).1⟩)
  have lt := r.cut.lt
  simp only at lt
  have nn := r.nn
  have hperm : Lad.np (c :: (A ++ Z)) = Lad.np L := by
    rw [hL, np_cons, np_append, np_append, np_cons]
    omega
  have hlen : (c :: (A ++ Z)).length = L.length := by
    rw [hL, List.length_cons, List.length_append, List.length_append, List.length_cons]
    omega
  have be1 : G.B (endOf L) := by
    rw [← hc]
    exact (I.gd c hcm).wk.al.se
  have rk1 : G.rk (endOf L) ≤ G.rk e := by
    by_cases h : endOf L = e
    · rw [h]; exact Nat.le_refl _
    · exact Nat.le_of_lt (G.mono be1 I.be (by omega) (by omega))
  have rk2 := G.mono r.cut.b be1 nn lt
  simp only at rk2
  refine ⟨⟨r.gd, nn, ?_, r.cut.b, fun x => ?_, fun k hk => ?_, ?_, I.ex, ?_, ?_, ?_⟩, lt, hle⟩
  · have := I.e1
    omega
  · rw [I.sat, r.sat, cuts_append]
    constructor
    · rintro ⟨⟨a, b⟩, d⟩; exact ⟨a, d, b⟩
    · rintro ⟨a, d, b⟩; exact ⟨⟨a, b⟩, d⟩
  · rcases List.mem_append.mp hk with q | q
    · obtain ⟨h1, h2, h3⟩ := I.ok k q
      exact ⟨h1, by omega, h3⟩
    · rw [List.mem_singleton.mp q]
      refine ⟨r.cut, Int.le_refl _, ?_⟩
      have := I.e1
      show endOf L ≤ size
      omega
  · rw [List.pairwise_append]
    refine ⟨I.ord, List.pairwise_singleton _ _, fun a ha b hb => ?_⟩
    rw [List.mem_singleton.mp hb]
    have := (I.ok a ha).2.1
    show endOf L ≤ a.lo
    omega
  · have := r.np
    have := I.np
    omega
  · have := r.len
    have := I.len
    have := I.np
    rw [List.length_append, List.length_singleton, Nat.add_mul]
    omega
  · have := I.cnt
    rw [List.length_append, List.length_singleton]
    omega
/-- no places left: no links left -/
theorem rinv_end {G : Grid} {size : Int} {n0 n1 : Nat} {T0 L : List Ti} {C : List Cut} {e : Int} (I : RInv G size n0 n1 T0 L C e) (h : e ≤ 0) : L = [] := by
  cases L with
  | nil => rfl
  | cons t L =>
    have g := (I.gd t List.mem_cons_self).wk
    have := g.s0
    have := g.l1
    have := g.se
    omega
/-! ### the ladder: what it says of all places -/
structure LadOk (size : Int) (T0 : List Ti) (C : List Cut) : Prop where
  sat : ∀ x, Sat T0 x ↔ CutsHold C x
  ok : ∀ k ∈ C, k.c.s ≤ k.lo ∧ k.lo < k.hi ∧ k.hi = k.c.s + k.c.l ∧ k.hi ≤ size ∧ 0 ≤ k.c.f ∧ (k.c.isPin = false → Ev k.c)
  ord : C.Pairwise fun a b => b.hi ≤ a.lo
  ex : ∃ x, Sat T0 x
theorem rinv_lad {G : Grid} {size : Int} {n0 n1 : Nat} {T0 L : List Ti} {C : List Cut} {e : Int} (I : RInv G size n0 n1 T0 L C e) (h : L = []) : LadOk size T0 C := by
  subst h
  refine ⟨fun x => ?_, fun k hk => ?_, I.ord, I.ex⟩
  · rw [I.sat]
    simp [sat_nil]
  · obtain ⟨h1, h2, h3⟩ := I.ok k hk
    exact ⟨h1.s, h1.lt, h1.e.symm, h3, h1.gd.wk.f0, h1.gd.ev⟩
/-! ### reading -/
inductive Ans where
  | told (n : Int)
  | hang (d : Bool) (q c : Int)
deriving DecidableEq
def Cut.has (k : Cut) (q : Int) : Bool := decide (k.lo ≤ q) && decide (q < k.hi)
def Cut.dest (k : Cut) (q : Int) : Int := if k.c.b then k.c.tu - q else q - k.c.rounds q k.lo * k.c.sh
def readC : List Cut → Int → Int → Bool → Ans
  | [], q, v, d => .hang d q v
  | k :: C, q, v, d => if k.has q then (if k.c.isPin then .told (if d then v - k.c.a / 2 else v + k.c.a / 2) else readC C (k.dest q) (if d then v - k.c.oftA (k.c.rounds q k.lo) else v + k.c.oftA (k.c.rounds q k.lo)) (d != k.c.oftD (k.c.rounds q k.lo))) else readC C q v d
def sgn (d : Bool) (v z : Int) : Int := if d then v - z else v + z
structure CutsOk (size : Int) (C : List Cut) : Prop where
  ok : ∀ k ∈ C, k.c.s ≤ k.lo ∧ k.lo < k.hi ∧ k.hi = k.c.s + k.c.l ∧ k.hi ≤ size ∧ 0 ≤ k.c.f ∧ (k.c.isPin = false → Ev k.c)
  ord : C.Pairwise fun a b => b.hi ≤ a.lo
theorem CutsOk.tail {size : Int} {k : Cut} {C : List Cut} (h : CutsOk size (k :: C)) : CutsOk size C := ⟨fun j hj => h.ok j (List.mem_cons_of_mem _ hj), (List.pairwise_cons.mp h.ord).2⟩
theorem has_iff {k : Cut} {q : Int} : k.has q = true ↔ k.lo ≤ q ∧ q < k.hi := by
  unfold Cut.has
  simp
theorem readC_out : ∀ {C : List Cut} {q v : Int} {d : Bool}, (∀ k ∈ C, k.has q = false) → readC C q v d = .hang d q v
  | [], _, _, _, _ => rfl
  | k :: C, q, v, d, h => by
    unfold readC
    rw [h k List.mem_cons_self, if_neg (by decide)]
    exact readC_out fun j hj => h j (List.mem_cons_of_mem _ hj)
theorem iter_led {t : Ti} {n : Nat} {v : Int} : t.iter (n + 1) v = t.iter n (t.led v) := by
  unfold Ti.iter Ti.led
  cases t.d with
  | true =>
    simp only [if_true]
    by_cases h : n % 2 = 1
    · rw [if_pos h, if_neg (by omega)]
      omega
    · rw [if_neg h, if_pos (by omega)]
  | false =>
    simp only [Bool.false_eq_true, if_false]
    rw [Int.natCast_add, Int.mul_add]
    omega
theorem cut_iter {k : Cut} {x : Int → Int} (h : CutHolds k x) (hb : k.c.b = false) (hs : 0 ≤ k.c.sh) : ∀ (n : Nat) (q : Int), q < k.hi → (n = 0 ∨ k.lo ≤ q - ((n : Int) - 1) * k.c.sh) → x q = k.c.iter n (x (q - n * k.c.sh))
  | 0, q, _, _ => by
    unfold Ti.iter
    simp
  | n + 1, q, h1, h2 => by
    have e1 : k.lo ≤ q - (n : Int) * k.c.sh := by
      rcases h2 with h2 | h2
      · cases h2
      · rwa [show ((n + 1 : Nat) : Int) - 1 = n by omega] at h2
    have nn : 0 ≤ (n : Int) * k.c.sh := Int.mul_nonneg (by omega) hs
    have ih := cut_iter h hb hs n q h1 (by
      by_cases hn : n = 0
      · exact .inl hn
      · right
        have : ((n : Int) - 1) * k.c.sh = n * k.c.sh - k.c.sh := by rw [Int.sub_mul]; omega
        omega)
    have r := h (q - n * k.c.sh) e1 (by omega)
    rw [ih, r, iter_led]
    unfold Ti.pre
    rw [hb]
    simp only [Bool.false_eq_true, if_false]
    congr 3
    rw [Int.natCast_add, Int.add_mul]
    omega
/-- one cut's step -/
theorem dest_ok {size : Int} {k : Cut} {C : List Cut} (O : CutsOk size (k :: C)) {q : Int} (hq : k.has q = true) (hp : k.c.isPin = false) : 0 ≤ k.dest q ∧ k.dest q < k.lo ∧ ∀ x, CutHolds k x → x q = sgn (k.c.oftD (k.c.rounds q k.lo)) (k.c.oftA (k.c.rounds q k.lo)) (x (k.dest q)) := by
  obtain ⟨h1, h2, h3, h4, h5, h6⟩ := O.ok k List.mem_cons_self
  obtain ⟨q1, q2⟩ := has_iff.mp hq
  have ev := h6 hp
  have hlt := ev.lt
  unfold Cut.dest
  cases hb : k.c.b with
  | true =>
    simp only [if_true]
    have ap := ev.ap hb
    refine ⟨by unfold Ti.tu; omega, by unfold Ti.tu; omega, fun x hx => ?_⟩
    have r := hx q q1 q2
    have hr : k.c.rounds q k.lo = 1 := by unfold Ti.rounds; rw [hb]; rfl
    rw [hr, r]
    unfold Ti.pre Ti.led sgn Ti.oftD Ti.oftA
    rw [hb]
    cases k.c.d <;> simp
  | false =>
    simp only [Bool.false_eq_true, if_false]
    obtain ⟨r1, r2, r3⟩ := rounds_pos ev hb q1
    generalize hm : k.c.rounds q k.lo = m at *
    have hs : k.c.sh = k.c.s - k.c.f := rfl
    have em : (m - 1) * k.c.sh = m * k.c.sh - k.c.sh := by rw [Int.sub_mul]; omega
    refine ⟨by omega, by omega, fun x hx => ?_⟩
    obtain ⟨n, rfl⟩ : ∃ n : Nat, m = n := ⟨m.toNat, by omega⟩
    rw [cut_iter hx hb (by omega) n q q2 (.inr (by omega)), iter_oft]
    rfl
theorem sgn_sgn (d d' : Bool) (v v' z : Int) : sgn d v (sgn d' v' z) = sgn (d != d') (if d then v - v' else v + v') z := by
  unfold sgn
  cases d <;> cases d' <;> simp <;> omega
theorem readC_ok {size : Int} : ∀ {C : List Cut} {q v : Int} {d : Bool}, CutsOk size C → 0 ≤ q →
    match readC C q v d with
    | .told n => ∀ x, CutsHold C x → sgn d v (x q) = n
    | .hang d' r w => (∀ x, CutsHold C x → sgn d v (x q) = sgn d' w (x r)) ∧ 0 ≤ r ∧ r ≤ q ∧ ∀ k ∈ C, k.has r = false
  | [], q, v, d, _, h0 => ⟨fun _ _ => rfl, h0, Int.le_refl _, fun _ h => nomatch h⟩
  | k :: C, q, v, d, O, h0 => by
    have hC : ∀ x, CutsHold (k :: C) x → CutHolds k x ∧ CutsHold C x := fun x hx => ⟨hx k List.mem_cons_self, fun j hj => hx j (List.mem_cons_of_mem _ hj)⟩
    unfold readC
    cases hq : k.has q with
    | true =>
      rw [if_pos rfl]
      obtain ⟨q1, q2⟩ := has_iff.mp hq
      cases hp : k.c.isPin with
      | true =>
        rw [if_pos rfl]
        intro x hx
        obtain ⟨c1, c2, c3⟩ := isPin_iff.mp hp
        have r := (hC x hx).1 q q1 q2
        unfold Ti.pre Ti.led Ti.sh at r
        rw [c1, c3, c2] at r
        simp only [Bool.false_eq_true, if_false, if_true] at r
        rw [show q - (k.c.s - k.c.s) = q by omega] at r
        unfold sgn
        have : k.c.a / 2 = x q := by omega
        rw [this]
      | false =>
        rw [if_neg (by decide)]
        obtain ⟨d1, d2, d3⟩ := dest_ok O hq hp
        have ih := readC_ok (C := C) (q := k.dest q) (v := if d then v - k.c.oftA (k.c.rounds q k.lo) else v + k.c.oftA (k.c.rounds q k.lo)) (d := d != k.c.oftD (k.c.rounds q k.lo)) O.tail d1
        generalize readC C (k.dest q) (if d then v - k.c.oftA (k.c.rounds q k.lo) else v + k.c.oftA (k.c.rounds q k.lo)) (d != k.c.oftD (k.c.rounds q k.lo)) = R at ih
        cases R with
        | told n =>
          intro x hx
          obtain ⟨x1, x2⟩ := hC x hx
          rw [d3 x x1, sgn_sgn]
          exact ih x x2
        | hang d' r w =>
          obtain ⟨i1, i2, i3, i4⟩ := ih
          refine ⟨fun x hx => ?_, i2, by omega, fun j hj => ?_⟩
          · obtain ⟨x1, x2⟩ := hC x hx
            rw [d3 x x1, sgn_sgn]
            exact i1 x x2
          · rcases List.mem_cons.mp hj with e | hj
            · rw [e]
              cases z : k.has r with
              | false => rfl
              | true =>
                have := (has_iff.mp z).1
                omega
            · exact i4 j hj
    | false =>
      rw [if_neg (by decide)]
      have hk := List.pairwise_cons.mp O.ord
      by_cases hge : k.hi ≤ q
      · have ho : ∀ j ∈ C, j.has q = false := fun j hj => by
          have := hk.1 j hj
          have := (O.ok k List.mem_cons_self).2.1
          cases z : j.has q with
          | false => rfl
          | true =>
            have := (has_iff.mp z).2
            omega
        rw [readC_out ho]
        refine ⟨fun _ _ => rfl, h0, Int.le_refl _, fun j hj => ?_⟩
        rcases List.mem_cons.mp hj with e | hj
        · rw [e]; exact hq
        · exact ho j hj
      · have ih := readC_ok (C := C) (q := q) (v := v) (d := d) O.tail h0
        generalize readC C q v d = R at ih
        cases R with
        | told n => exact fun x hx => ih x (hC x hx).2
        | hang d' r w =>
          obtain ⟨i1, i2, i3, i4⟩ := ih
          refine ⟨fun x hx => i1 x (hC x hx).2, i2, i3, fun j hj => ?_⟩
          rcases List.mem_cons.mp hj with e | hj
          · rw [e]
            cases z : k.has r with
            | false => rfl
            | true =>
              have h1 := (has_iff.mp z).1
              have : k.has q = true := has_iff.mpr ⟨by omega, by omega⟩
              rw [this] at hq
              cases hq
          · exact i4 j hj
end Lad

-- M9
set_option linter.all false
set_option maxRecDepth 10000
namespace Lad
/-! ### the free places can be chosen -/
def solN (C : List Cut) (g : Int → Int) : Nat → Int → Int
  | 0, q => g q
  | n + 1, q => match C.find? (fun k => k.has q) with
    | none => g q
    | some k => if k.c.isPin then k.c.a / 2 else k.c.led (solN C g n (k.c.pre q))
theorem pre_lt {size : Int} {C : List Cut} (O : CutsOk size C) {k : Cut} (hk : k ∈ C) {q : Int} (hq : k.has q = true) (hp : k.c.isPin = false) : 0 ≤ k.c.pre q ∧ k.c.pre q < q := by
  obtain ⟨h1, h2, h3, h4, h5, h6⟩ := O.ok k hk
  obtain ⟨q1, q2⟩ := has_iff.mp hq
  have ev := h6 hp
  have := ev.lt
  unfold Ti.pre Ti.tu Ti.sh
  cases hb : k.c.b with
  | true =>
    simp only [if_true]
    have := ev.ap hb
    omega
  | false =>
    simp only [Bool.false_eq_true, if_false]
    omega
theorem solN_eq {size : Int} {C : List Cut} (O : CutsOk size C) (g : Int → Int) (b : Nat) : ∀ (q : Int) (n m : Nat), q.toNat ≤ b → 0 ≤ q → q.toNat < n → q.toNat < m → solN C g n q = solN C g m q := by
  induction b with
  | zero =>
    intro q n m hb h0 hn hm
    obtain ⟨n, rfl⟩ : ∃ k, n = k + 1 := ⟨n - 1, by omega⟩
    obtain ⟨m, rfl⟩ : ∃ k, m = k + 1 := ⟨m - 1, by omega⟩
    unfold solN
    cases hf : C.find? (fun k => k.has q) with
    | none => rfl
    | some k =>
      simp only
      have hk := List.mem_of_find?_eq_some hf
      have hq : k.has q = true := List.find?_some (p := fun k : Cut => k.has q) hf
      cases hp : k.c.isPin with
      | true => rfl
      | false =>
        obtain ⟨p1, p2⟩ := pre_lt O hk hq hp
        omega
  | succ b ih =>
    intro q n m hb h0 hn hm
    obtain ⟨n, rfl⟩ : ∃ k, n = k + 1 := ⟨n - 1, by omega⟩
    obtain ⟨m, rfl⟩ : ∃ k, m = k + 1 := ⟨m - 1, by omega⟩
    unfold solN
    cases hf : C.find? (fun k => k.has q) with
    | none => rfl
    | some k =>
      simp only
      have hk := List.mem_of_find?_eq_some hf
      have hq : k.has q = true := List.find?_some (p := fun k : Cut => k.has q) hf
      cases hp : k.c.isPin with
      | true => rfl
      | false =>
        simp only [Bool.false_eq_true, if_false]
        obtain ⟨p1, p2⟩ := pre_lt O hk hq hp
        rw [ih (k.c.pre q) n m (by omega) p1 (by omega) (by omega)]
theorem has_only {k j : Cut} {q : Int} (k1 : k.has q = true) (j1 : j.has q = true) (C : List Cut) (h : C.Pairwise fun a b => b.hi ≤ a.lo) (hk : k ∈ C) (hj : j ∈ C) : k = j := by
  induction C with
  | nil => cases hk
  | cons c C ih =>
    obtain ⟨h1, h2⟩ := List.pairwise_cons.mp h
    obtain ⟨a1, a2⟩ := has_iff.mp k1
    obtain ⟨b1, b2⟩ := has_iff.mp j1
    rcases List.mem_cons.mp hk with ek | hk
    · rcases List.mem_cons.mp hj with ej | hj
      · rw [ek, ej]
      · have := h1 j hj
        rw [ek] at a1
        omega
    · rcases List.mem_cons.mp hj with ej | hj
      · have := h1 k hk
        rw [ej] at b1
        omega
      · exact ih h2 hk hj
theorem choose {size : Int} {C : List Cut} (O : CutsOk size C) (hx : ∃ x, CutsHold C x) (g : Int → Int) : ∃ x, CutsHold C x ∧ ∀ q, 0 ≤ q → (∀ k ∈ C, k.has q = false) → x q = g q := by
  obtain ⟨x0, hx0⟩ := hx
  refine ⟨fun q => solN C g (q.toNat + 1) q, fun k hk q q1 q2 => ?_, fun q h0 hn => ?_⟩
  · have hq : k.has q = true := has_iff.mpr ⟨q1, q2⟩
    obtain ⟨h1, h2, h3, h4, h5, h6⟩ := O.ok k hk
    have e1 : solN C g (q.toNat + 1) q = if k.c.isPin then k.c.a / 2 else k.c.led (solN C g q.toNat (k.c.pre q)) := by
      show (match C.find? (fun k => k.has q) with
        | none => g q
        | some k => if k.c.isPin then k.c.a / 2 else k.c.led (solN C g q.toNat (k.c.pre q))) = _
      cases hf : C.find? (fun k => k.has q) with
      | none =>
        have := List.find?_eq_none.mp hf k hk
        rw [hq] at this
        exact absurd rfl this
      | some j =>
        have hj := List.mem_of_find?_eq_some hf
        have hjq : j.has q = true := List.find?_some (p := fun k : Cut => k.has q) hf
        rw [has_only hq hjq C O.ord hk hj]
    simp only
    rw [e1]
    cases hp : k.c.isPin with
    | true =>
      simp only [if_true]
      obtain ⟨c1, c2, c3⟩ := isPin_iff.mp hp
      have ep : k.c.pre q = q := by
        unfold Ti.pre Ti.sh
        rw [c3, c2]
        simp
      have r := hx0 k hk q q1 q2
      rw [ep]
      rw [ep] at r
      rw [e1, hp]
      simp only [if_true]
      unfold Ti.led at r ⊢
      rw [c1] at r ⊢
      simp only [if_true] at r ⊢
      omega
    | false =>
      simp only [Bool.false_eq_true, if_false]
      obtain ⟨p1, p2⟩ := pre_lt O hk hq hp
      rw [solN_eq O g (k.c.pre q).toNat (k.c.pre q) q.toNat ((k.c.pre q).toNat + 1) (Nat.le_refl _) p1 (by omega) (by omega)]
  · show (match C.find? (fun k => k.has q) with
        | none => g q
        | some k => if k.c.isPin then k.c.a / 2 else k.c.led (solN C g q.toNat (k.c.pre q))) = _
    have hf : C.find? (fun k => k.has q) = none := List.find?_eq_none.mpr fun k hk => by rw [hn k hk]; decide
    rw [hf]
/-! ### normal forms -/
structure NF (Om : (Int → Int) → Prop) (P : Int → Prop) (ans : Int → Ans) : Prop where
  told : ∀ p n, P p → ans p = .told n → ∀ x, Om x → x p = n
  hang : ∀ p d q c, P p → ans p = .hang d q c → (∀ x, Om x → x p = sgn d c (x q)) ∧ P q ∧ q ≤ p ∧ ans q = .hang false q 0
  free : ∀ g : Int → Int, ∃ x, Om x ∧ ∀ q, P q → ans q = .hang false q 0 → x q = g q
theorem lad_nf {size : Int} {T0 : List Ti} {C : List Cut} (L : LadOk size T0 C) : NF (Sat T0) (fun p => 0 ≤ p ∧ p < size) (fun p => readC C p 0 false) := by
  have O : CutsOk size C := ⟨L.ok, L.ord⟩
  have out : ∀ q, 0 ≤ q → (∀ k ∈ C, k.has q = false) → readC C q 0 false = .hang false q 0 := fun q _ h => readC_out h
  refine ⟨fun p n hp e x hx => ?_, fun p d q c hp e => ?_, fun g => ?_⟩
  · have r := readC_ok (v := 0) (d := false) O hp.1
    rw [e] at r
    have := r x ((L.sat x).mp hx)
    unfold sgn at this
    simpa using this
  · have r := readC_ok (v := 0) (d := false) O hp.1
    rw [e] at r
    obtain ⟨r1, r2, r3, r4⟩ := r
    refine ⟨fun x hx => ?_, ⟨r2, by omega⟩, r3, out q r2 r4⟩
    rw [← r1 x ((L.sat x).mp hx)]
    unfold sgn
    simp
  · obtain ⟨x0, hx0⟩ := L.ex
    obtain ⟨x, h1, h2⟩ := choose O ⟨x0, (L.sat x0).mp hx0⟩ g
    refine ⟨x, (L.sat x).mpr h1, fun q hq e => h2 q hq.1 fun k hk => ?_⟩
    have r := readC_ok (v := 0) (d := false) O hq.1
    rw [e] at r
    exact r.2.2.2 k hk
theorem sgn_inj {d d' : Bool} {c c' : Int} (h : ∀ z : Int, sgn d c z = sgn d' c' z) : d = d' ∧ c = c' := by
  have h0 := h 0
  have h1 := h 1
  unfold sgn at h0 h1
  cases d <;> cases d' <;> simp at h0 h1 ⊢ <;> omega
/-- the place that one form hangs on is no lesser than that of another -/
theorem nf_le {Om : (Int → Int) → Prop} {P : Int → Prop} {a b : Int → Ans} (A : NF Om P a) (B : NF Om P b) {p : Int} (hp : P p) {d d' : Bool} {q q' c c' : Int} (ea : a p = .hang d q c) (eb : b p = .hang d' q' c') : q ≤ q' := by
  obtain ⟨a1, a2, a3, a4⟩ := A.hang p d q c hp ea
  obtain ⟨b1, b2, b3, b4⟩ := B.hang p d' q' c' hp eb
  cases e : a q' with
  | told n =>
    -- q' would be told, yet it can be chosen
    obtain ⟨x, hx, fx⟩ := B.free fun _ => n + 1
    have h1 := A.told q' n b2 e x hx
    have h2 := fx q' b2 b4
    omega
  | hang d2 q2 c2 =>
    obtain ⟨e1, e2, e3, e4⟩ := A.hang q' d2 q2 c2 b2 e
    by_cases h : q2 = q
    · omega
    · obtain ⟨x, hx, fx⟩ := A.free fun _ => 0
      obtain ⟨y, hy, fy⟩ := A.free fun z => if z = q then 1 else 0
      have x1 := a1 x hx
      have y1 := a1 y hy
      have x2 := b1 x hx
      have y2 := b1 y hy
      rw [e1 x hx] at x2
      rw [e1 y hy] at y2
      have fx1 := fx q a2 a4
      have fy1 := fy q a2 a4
      have fx2 := fx q2 e2 e4
      have fy2 := fy q2 e2 e4
      rw [if_pos rfl] at fy1
      rw [if_neg h] at fy2
      rw [fx1] at x1
      rw [fy1] at y1
      rw [fx2] at x2
      rw [fy2] at y2
      exfalso
      have : sgn d c 0 = sgn d c 1 := by omega
      unfold sgn at this
      cases d <;> simp at this <;> omega
theorem nf_one {Om : (Int → Int) → Prop} {P : Int → Prop} {a b : Int → Ans} (A : NF Om P a) (B : NF Om P b) {p : Int} (hp : P p) : a p = b p := by
  obtain ⟨x0, hx0, _⟩ := A.free fun _ => 0
  cases ea : a p with
  | told n =>
    have h1 := A.told p n hp ea
    cases eb : b p with
    | told m =>
      have h2 := B.told p m hp eb x0 hx0
      rw [h1 x0 hx0] at h2
      rw [h2]
    | hang d q c =>
      exfalso
      obtain ⟨b1, b2, b3, b4⟩ := B.hang p d q c hp eb
      obtain ⟨x, hx, fx⟩ := B.free fun _ => 0
      obtain ⟨y, hy, fy⟩ := B.free fun _ => 1
      have e1 := b1 x hx
      have e2 := b1 y hy
      rw [fx q b2 b4, h1 x hx] at e1
      rw [fy q b2 b4, h1 y hy] at e2
      unfold sgn at e1 e2
      cases d <;> simp at e1 e2 <;> omega
  | hang d q c =>
    obtain ⟨a1, a2, a3, a4⟩ := A.hang p d q c hp ea
    cases eb : b p with
    | told m =>
      exfalso
      have h2 := B.told p m hp eb
      obtain ⟨x, hx, fx⟩ := A.free fun _ => 0
      obtain ⟨y, hy, fy⟩ := A.free fun _ => 1
      have e1 := a1 x hx
      have e2 := a1 y hy
      rw [fx q a2 a4, h2 x hx] at e1
      rw [fy q a2 a4, h2 y hy] at e2
      unfold sgn at e1 e2
      cases d <;> simp at e1 e2 <;> omega
    | hang d' q' c' =>
      have hq : q = q' := Int.le_antisymm (nf_le A B hp ea eb) (nf_le B A hp eb ea)
      subst hq
      obtain ⟨b1, b2, b3, b4⟩ := B.hang p d' q c' hp eb
      have : ∀ z : Int, sgn d c z = sgn d' c' z := fun z => by
        obtain ⟨x, hx, fx⟩ := A.free fun _ => z
        have e1 := a1 x hx
        rw [fx q a2 a4] at e1
        have e2 := b1 x hx
        rw [fx q a2 a4] at e2
        omega
      obtain ⟨h1, h2⟩ := sgn_inj this
      rw [h1, h2]
end Lad

-- M10
set_option linter.all false
set_option maxRecDepth 10000
namespace Lad
/-! ### places joined by pairs: the note of q is a and s times that of p -/
structure Pr where
  p : Int
  q : Int
  s : Int
  a : Int
abbrev Edge := Int × Int × Int
def nbr1 (p : Int) (r : Pr) : List Edge := (if r.p = p then [(r.q, r.s, r.a)] else []) ++ (if r.q = p then [(r.p, r.s, -r.s * r.a)] else [])
def nbrs (ps : List Pr) (p : Int) : List Edge := ps.flatMap (nbr1 p)
def PSat (ps : List Pr) (x : Int → Int) : Prop := ∀ r ∈ ps, x r.q = r.a + r.s * x r.p
def Ones (ps : List Pr) : Prop := ∀ r ∈ ps, r.s = 1 ∨ r.s = -1
theorem mem_nbrs {ps : List Pr} {p : Int} {e : Edge} : e ∈ nbrs ps p ↔ ∃ r ∈ ps, (r.p = p ∧ e = (r.q, r.s, r.a)) ∨ (r.q = p ∧ e = (r.p, r.s, -r.s * r.a)) := by
  unfold nbrs nbr1
  rw [List.mem_flatMap]
  refine exists_congr fun r => and_congr_right fun _ => ?_
  rw [List.mem_append]
  by_cases h1 : r.p = p
  · by_cases h2 : r.q = p
    · rw [if_pos h1, if_pos h2]; simp [h1, h2]
    · rw [if_pos h1, if_neg h2]; simp [h1, h2]
  · by_cases h2 : r.q = p
    · rw [if_neg h1, if_pos h2]; simp [h1, h2]
    · rw [if_neg h1, if_neg h2]; simp [h1, h2]
theorem edge_one {ps : List Pr} (h : Ones ps) {p : Int} {e : Edge} (he : e ∈ nbrs ps p) : e.2.1 = 1 ∨ e.2.1 = -1 := by
  obtain ⟨r, hr, h1 | h1⟩ := mem_nbrs.mp he
  · rw [h1.2]; exact h r hr
  · rw [h1.2]; exact h r hr
theorem edge_holds {ps : List Pr} (h : Ones ps) {x : Int → Int} (hx : PSat ps x) {p : Int} {e : Edge} (he : e ∈ nbrs ps p) : x e.1 = e.2.2 + e.2.1 * x p := by
  obtain ⟨r, hr, h1 | h1⟩ := mem_nbrs.mp he
  · rw [h1.2, ← h1.1]; exact hx r hr
  · rw [h1.2, ← h1.1]
    have q := hx r hr
    rcases h r hr with e | e
    · rw [e] at q ⊢; simp only; omega
    · rw [e] at q ⊢; simp only; omega
theorem edge_back {ps : List Pr} {p : Int} {e : Edge} (he : e ∈ nbrs ps p) : ∃ e' ∈ nbrs ps e.1, e'.1 = p := by
  obtain ⟨r, hr, h1 | h1⟩ := mem_nbrs.mp he
  · exact ⟨(r.p, r.s, -r.s * r.a), mem_nbrs.mpr ⟨r, hr, .inr ⟨by rw [h1.2], rfl⟩⟩, h1.1⟩
  · exact ⟨(r.q, r.s, r.a), mem_nbrs.mpr ⟨r, hr, .inl ⟨by rw [h1.2], rfl⟩⟩, h1.1⟩
/-! ### a web -/
abbrev Signs := List (Int × (Int × Int))
structure Web where
  signs : Signs
  notes : List (Option Int)
  todo : List Int
def noteOf (so come : Int × Int) : Option Int := if so.1 ≠ come.1 ∧ (come.1 * (so.2 - come.2)) % 2 = 0 then some (come.1 * (so.2 - come.2) / 2) else none
def comeOf (own : Int × Int) (e : Edge) : Int × Int := (e.2.1 * own.1, e.2.2 + e.2.1 * own.2)
def edgeStep (own : Int × Int) (w : Web) (e : Edge) : Web :=
  match w.signs.lookup e.1 with
  | none => ⟨w.signs ++ [(e.1, comeOf own e)], w.notes, w.todo ++ [e.1]⟩
  | some so => if so = comeOf own e then w else ⟨w.signs, w.notes ++ [noteOf so (comeOf own e)], w.todo⟩
/-- one turn: the last place to do is taken away, its edges are gone along -/
def webStep (ps : List Pr) (w : Web) : Web := match w.todo.getLast? with
  | none => w
  | some p => (nbrs ps p).foldl (edgeStep ((w.signs.lookup p).getD (1, 0))) ⟨w.signs, w.notes, w.todo.dropLast⟩
theorem lookup_snoc {l : Signs} {k z : Int} {v : Int × Int} : (l ++ [(k, v)]).lookup z = match l.lookup z with
    | some u => some u
    | none => if z = k then some v else none := by
  induction l with
  | nil =>
    rw [List.nil_append]
    by_cases h : z = k
    · subst h; simp [List.lookup]
    · have : (z == k) = false := beq_eq_false_iff_ne.mpr h
      simp [List.lookup, this, h]
  | cons a l ih =>
    rw [List.cons_append]
    obtain ⟨b, u⟩ := a
    by_cases h : z = b
    · subst h; simp [List.lookup]
    · have : (z == b) = false := beq_eq_false_iff_ne.mpr h
      simp only [List.lookup, this]
      exact ih
theorem lookup_mem {l : Signs} {k : Int} {v : Int × Int} (h : l.lookup k = some v) : (k, v) ∈ l := by
  induction l with
  | nil => cases h
  | cons a l ih =>
    obtain ⟨b, u⟩ := a
    by_cases hk : k = b
    · subst hk
      simp [List.lookup] at h
      rw [h]
      exact List.mem_cons_self
    · have : (k == b) = false := beq_eq_false_iff_ne.mpr hk
      simp only [List.lookup, this] at h
      exact List.mem_cons_of_mem _ (ih h)
theorem mem_lookup {l : Signs} (hn : (l.map (·.1)).Nodup) {k : Int} {v : Int × Int} (h : (k, v) ∈ l) : l.lookup k = some v := by
  induction l with
  | nil => cases h
  | cons a l ih =>
    obtain ⟨b, u⟩ := a
    rw [List.map_cons, List.nodup_cons] at hn
    rcases List.mem_cons.mp h with e | h
    · cases e
      simp [List.lookup]
    · have : k ≠ b := fun e => hn.1 (by rw [← e]; exact List.mem_map.mpr ⟨(k, v), h, rfl⟩)
      have : (k == b) = false := beq_eq_false_iff_ne.mpr this
      simp only [List.lookup, this]
      exact ih hn.2 h
theorem lookup_none {l : Signs} {k : Int} : l.lookup k = none ↔ k ∉ l.map (·.1) := by
  induction l with
  | nil => simp
  | cons a l ih =>
    obtain ⟨b, u⟩ := a
    by_cases hk : k = b
    · subst hk
      simp [List.lookup]
    · have : (k == b) = false := beq_eq_false_iff_ne.mpr hk
      simp only [List.lookup, this, ih, List.map_cons, List.mem_cons]
      simp [hk]
/-- an edge from a place that is done: its end is known, alike or told as a note -/
def EdgeOk (w : Web) (own : Int × Int) (e : Edge) : Prop := ∃ so, w.signs.lookup e.1 = some so ∧ (so = comeOf own e ∨ noteOf so (comeOf own e) ∈ w.notes)
/-- B: a bound of the amounts of edges -/
structure WInv (ps : List Pr) (B : Nat) (Q : Int → Prop) (root : Int) (w : Web) : Prop where
  rt : w.signs.lookup root = some (1, 0)
  nd : (w.signs.map (·.1)).Nodup
  one : ∀ k ∈ w.signs, k.2.1 = 1 ∨ k.2.1 = -1
  say : ∀ x, PSat ps x → ∀ k ∈ w.signs, x k.1 = k.2.2 + k.2.1 * x root
  no : none ∈ w.notes → ∀ x, ¬ PSat ps x
  so : ∀ n, some n ∈ w.notes → ∀ x, PSat ps x → x root = n
  todo : ∀ p ∈ w.todo, (w.signs.lookup p).isSome = true
  bd : ∀ k ∈ w.signs, k.2.2.natAbs ≤ (w.signs.length - 1) * B
  from_ : ∀ k ∈ w.signs, Q k.1
  nb : ∀ n, some n ∈ w.notes → n.natAbs ≤ 2 * w.signs.length * B
theorem Ones.mul {s t : Int} (h : s = 1 ∨ s = -1) (h2 : t = 1 ∨ t = -1) : s * t = 1 ∨ s * t = -1 := by
  rcases h with e | e <;> rcases h2 with e2 | e2 <;> rw [e, e2] <;> decide
theorem one_abs {s : Int} (h : s = 1 ∨ s = -1) (z : Int) : (s * z).natAbs = z.natAbs := by
  rcases h with e | e <;> rw [e] <;> simp
theorem edgeStep_ok {ps : List Pr} (hO : Ones ps) {B : Nat} {Q : Int → Prop} (hQ : ∀ p, ∀ e ∈ nbrs ps p, Q p → Q e.1) {root : Int} {w : Web} (I : WInv ps B Q root w) {p : Int} {own : Int × Int} (hp : w.signs.lookup p = some own) {e : Edge} (he : e ∈ nbrs ps p) (hB : e.2.2.natAbs ≤ B) :
    WInv ps B Q root (edgeStep own w e) ∧ EdgeOk (edgeStep own w e) own e ∧ (edgeStep own w e).signs.lookup p = some own ∧ (∀ own' e', EdgeOk w own' e' → EdgeOk (edgeStep own w e) own' e') ∧
      (∀ q, (w.signs.lookup q).isSome = true → q ∉ w.todo → q ∉ (edgeStep own w e).todo) ∧ (∀ q v, (edgeStep own w e).signs.lookup q = some v → w.signs.lookup q = some v ∨ q ∈ (edgeStep own w e).todo) ∧
      (∀ q v, w.signs.lookup q = some v → (edgeStep own w e).signs.lookup q = some v) := by
  have hpm := lookup_mem hp
  have o1 := I.one _ hpm
  have o2 := edge_one hO he
  have oc : (comeOf own e).1 = 1 ∨ (comeOf own e).1 = -1 := Ones.mul o2 o1
  have sayc : ∀ x, PSat ps x → x e.1 = (comeOf own e).2 + (comeOf own e).1 * x root := fun x hx => by
    have h1 := edge_holds hO hx he
    have h2 := I.say x hx _ hpm
    rw [h1, h2]
    show e.2.2 + e.2.1 * (own.2 + own.1 * x root) = e.2.2 + e.2.1 * own.2 + e.2.1 * own.1 * x root
    rw [Int.mul_add, Int.mul_assoc]
    omega
  have hlen : 1 ≤ w.signs.length := List.length_pos_of_mem hpm
  have bown := I.bd _ hpm
  simp only at bown
  have bcome : (comeOf own e).2.natAbs ≤ w.signs.length * B := by
    show (e.2.2 + e.2.1 * own.2).natAbs ≤ _
    have h1 := Int.natAbs_add_le e.2.2 (e.2.1 * own.2)
    rw [one_abs o2] at h1
    have h2 : w.signs.length * B = (w.signs.length - 1) * B + B := by
      have : w.signs.length = (w.signs.length - 1) + 1 := by omega
      conv => lhs; rw [this, Nat.add_mul]
      omega
    omega
  cases hl : w.signs.lookup e.1 with
  | none =>
    have es : edgeStep own w e = ⟨w.signs ++ [(e.1, comeOf own e)], w.notes, w.todo ++ [e.1]⟩ := by
      unfold edgeStep
      rw [hl]
    rw [es]
    have keep : ∀ q v, w.signs.lookup q = some v → (w.signs ++ [(e.1, comeOf own e)]).lookup q = some v := fun q v h => by
      rw [lookup_snoc, h]
    have ll : (w.signs ++ [(e.1, comeOf own e)]).length = w.signs.length + 1 := by simp
    refine ⟨⟨keep _ _ I.rt, ?_, fun k hk => ?_, fun x hx k hk => ?_, I.no, I.so, fun q hq => ?_, fun k hk => ?_, fun k hk => ?_, fun n hn => ?_⟩, ?_, keep _ _ hp, fun own' e' ⟨so, h1, h2⟩ => ⟨so, keep _ _ h1, h2⟩, fun q h1 h2 hq => ?_, fun q v hq => ?_, keep⟩
    · rw [List.map_append, List.nodup_append]
      refine ⟨I.nd, by simp, fun a ha b hb => ?_⟩
      simp only [List.map_cons, List.map_nil, List.mem_singleton] at hb
      rw [hb]
      rintro rfl
      exact lookup_none.mp hl ha
    · rcases List.mem_append.mp hk with q | q
      · exact I.one k q
      · rw [List.mem_singleton.mp q]; exact oc
    · rcases List.mem_append.mp hk with q | q
      · exact I.say x hx k q
      · rw [List.mem_singleton.mp q]; exact sayc x hx
    · rcases List.mem_append.mp hq with h | h
      · obtain ⟨v, hv⟩ := Option.isSome_iff_exists.mp (I.todo q h)
        rw [keep q v hv]
        rfl
      · rw [List.mem_singleton.mp h]
        rw [lookup_snoc, hl]
        simp
    · rw [ll]
      rcases List.mem_append.mp hk with q | q
      · have := I.bd k q
        have h2 : (w.signs.length + 1 - 1) * B = (w.signs.length - 1) * B + B := by
          have : w.signs.length + 1 - 1 = (w.signs.length - 1) + 1 := by omega
          rw [this, Nat.add_mul]
          omega
        omega
      · rw [List.mem_singleton.mp q]
        exact bcome
    · rcases List.mem_append.mp hk with q | q
      · exact I.from_ k q
      · rw [List.mem_singleton.mp q]
        exact hQ p e he (I.from_ _ hpm)
    · have := I.nb n hn
      rw [ll, Nat.mul_add, Nat.add_mul]
      omega
    · refine ⟨comeOf own e, ?_, .inl rfl⟩
      rw [lookup_snoc, hl]
      simp
    · rcases List.mem_append.mp hq with h | h
      · exact h2 h
      · rw [List.mem_singleton.mp h, hl] at h1
        cases h1
    · simp only at hq
      rw [lookup_snoc] at hq
      cases hw : w.signs.lookup q with
      | some u =>
        rw [hw] at hq
        exact .inl hq
      | none =>
        rw [hw] at hq
        right
        by_cases h : q = e.1
        · rw [h]; simp
        · simp [h] at hq
  | some so =>
    have hso := lookup_mem hl
    by_cases hc : so = comeOf own e
    · have es : edgeStep own w e = w := by
        unfold edgeStep
        rw [hl]
        simp only
        rw [if_pos hc]
      rw [es]
      exact ⟨I, ⟨so, hl, .inl hc⟩, hp, fun _ _ h => h, fun _ _ h => h, fun _ _ h => .inl h, fun _ _ h => h⟩
    · have es : edgeStep own w e = ⟨w.signs, w.notes ++ [noteOf so (comeOf own e)], w.todo⟩ := by
        unfold edgeStep
        rw [hl]
        simp only
        rw [if_neg hc]
      rw [es]
      have oso := I.one _ hso
      simp only at oso
      -- what the notes say
      have key : ∀ x, PSat ps x → noteOf so (comeOf own e) = some (x root) := fun x hx => by
        have h1 := I.say x hx _ hso
        have h2 := sayc x hx
        simp only at h1
        rw [h1] at h2
        unfold noteOf
        have ne : so.1 ≠ (comeOf own e).1 := fun q => hc (Prod.ext q (by rw [q] at h2; omega))
        rcases oso with e1 | e1 <;> rcases oc with e2 | e2
        · exact absurd (e1.trans e2.symm) ne
        · rw [e1, e2] at h2 ⊢
          rw [if_pos ⟨by decide, by omega⟩]
          congr 1
          omega
        · rw [e1, e2] at h2 ⊢
          rw [if_pos ⟨by decide, by omega⟩]
          congr 1
          omega
        · exact absurd (e1.trans e2.symm) ne
      refine ⟨⟨I.rt, I.nd, I.one, I.say, fun hn x hx => ?_, fun n hn x hx => ?_, I.todo, I.bd, I.from_, fun n hn => ?_⟩, ⟨so, hl, .inr (by simp)⟩, hp, fun own' e' ⟨so', h1, h2⟩ => ⟨so', h1, h2.elim .inl fun z => .inr (List.mem_append_left _ z)⟩, fun _ _ h => h, fun _ _ h => .inl h, fun _ _ h => h⟩
      · rcases List.mem_append.mp hn with q | q
        · exact I.no q x hx
        · have := List.mem_singleton.mp q
          rw [key x hx] at this
          cases this
      · rcases List.mem_append.mp hn with q | q
        · exact I.so n q x hx
        · have := List.mem_singleton.mp q
          rw [key x hx] at this
          exact (Option.some.inj this).symm
      · rcases List.mem_append.mp hn with q | q
        · exact I.nb n q
        · have z := List.mem_singleton.mp q
          unfold noteOf at z
          split at z
          · have z' := Option.some.inj z
            rw [z']
            have b1 := I.bd _ hso
            simp only at b1
            have b3 : (w.signs.length - 1) * B ≤ w.signs.length * B := Nat.mul_le_mul_right _ (by omega)
            have b2 : ((comeOf own e).1 * (so.2 - (comeOf own e).2)).natAbs ≤ 2 * (w.signs.length * B) := by
              rw [one_abs oc]
              omega
            show ((comeOf own e).1 * (so.2 - (comeOf own e).2) / 2).natAbs ≤ 2 * w.signs.length * B
            rw [Nat.mul_assoc]
            omega
          · cases z
end Lad

-- M11
set_option linter.all false
set_option maxRecDepth 10000
namespace Lad
def Done (ps : List Pr) (w : Web) : Prop := ∀ p own, w.signs.lookup p = some own → p ∉ w.todo → ∀ e ∈ nbrs ps p, EdgeOk w own e
theorem edges_ok {ps : List Pr} (hO : Ones ps) {B : Nat} {Q : Int → Prop} (hQ : ∀ p, ∀ e ∈ nbrs ps p, Q p → Q e.1) {root p : Int} {own : Int × Int} : ∀ (es : List Edge) (w : Web), WInv ps B Q root w → w.signs.lookup p = some own → (∀ e ∈ es, e ∈ nbrs ps p ∧ e.2.2.natAbs ≤ B) →
    WInv ps B Q root (es.foldl (edgeStep own) w) ∧ (∀ e ∈ es, EdgeOk (es.foldl (edgeStep own) w) own e) ∧ (∀ own' e', EdgeOk w own' e' → EdgeOk (es.foldl (edgeStep own) w) own' e') ∧
      (∀ q, (w.signs.lookup q).isSome = true → q ∉ w.todo → q ∉ (es.foldl (edgeStep own) w).todo) ∧ (∀ q v, (es.foldl (edgeStep own) w).signs.lookup q = some v → w.signs.lookup q = some v ∨ q ∈ (es.foldl (edgeStep own) w).todo) ∧
      (∀ q v, w.signs.lookup q = some v → (es.foldl (edgeStep own) w).signs.lookup q = some v) ∧ 2 * w.signs.length + (es.foldl (edgeStep own) w).todo.length ≤ 2 * (es.foldl (edgeStep own) w).signs.length + w.todo.length ∧ (∀ q ∈ w.todo, q ∈ (es.foldl (edgeStep own) w).todo)
  | [], w, I, hp, _ => ⟨I, (fun _ h => nomatch h), fun _ _ h => h, fun _ _ h => h, fun _ _ h => .inl h, fun _ _ h => h, Nat.le_refl _, fun _ h => h⟩
  | e :: es, w, I, hp, he => by
    obtain ⟨h1, h2⟩ := he e List.mem_cons_self
    obtain ⟨a1, a2, a3, a4, a5, a6, a7⟩ := edgeStep_ok hO hQ I hp h1 h2
    obtain ⟨b1, b2, b3, b4, b5, b6, b7, b8⟩ := edges_ok hO hQ es (edgeStep own w e) a1 a3 fun e' h' => he e' (List.mem_cons_of_mem _ h')
    rw [List.foldl_cons]
    have sub : ∀ q ∈ w.todo, q ∈ (edgeStep own w e).todo := fun q hq => by
      unfold edgeStep
      cases w.signs.lookup e.1 with
      | none => exact List.mem_append_left _ hq
      | some so =>
        simp only
        split <;> exact hq
    have meas : 2 * w.signs.length + (edgeStep own w e).todo.length ≤ 2 * (edgeStep own w e).signs.length + w.todo.length := by
      unfold edgeStep
      cases w.signs.lookup e.1 with
      | none =>
        simp only [List.length_append, List.length_cons, List.length_nil]
        omega
      | some so =>
        simp only
        split <;> exact Nat.le_refl _
    refine ⟨b1, fun e' h' => ?_, fun own' e' h => b3 own' e' (a4 own' e' h), fun q h1 h2 => ?_, fun q v hq => ?_, fun q v hq => b6 q v (a7 q v hq), by omega, fun q hq => b8 q (sub q hq)⟩
    · rcases List.mem_cons.mp h' with z | z
      · rw [z]; exact b3 own e a2
      · exact b2 e' z
    · obtain ⟨v, hv⟩ := Option.isSome_iff_exists.mp h1
      exact b4 q (by rw [a7 q v hv]; rfl) (a5 q h1 h2)
    · rcases b5 q v hq with z | z
      · rcases a6 q v z with y | y
        · exact .inl y
        · exact .inr (b8 q y)
      · exact .inr z
theorem webStep_ok {ps : List Pr} (hO : Ones ps) {B : Nat} (hB : ∀ p, ∀ e ∈ nbrs ps p, e.2.2.natAbs ≤ B) {Q : Int → Prop} (hQ : ∀ p, ∀ e ∈ nbrs ps p, Q p → Q e.1) {root : Int} {w : Web} (I : WInv ps B Q root w) (D : Done ps w) (ht : w.todo ≠ []) :
    WInv ps B Q root (webStep ps w) ∧ Done ps (webStep ps w) ∧ 2 * w.signs.length + (webStep ps w).todo.length < 2 * (webStep ps w).signs.length + w.todo.length := by
  obtain ⟨p, hp⟩ : ∃ p, w.todo.getLast? = some p := by
    cases h : w.todo.getLast? with
    | none => exact absurd (List.getLast?_eq_none_iff.mp h) ht
    | some p => exact ⟨p, rfl⟩
  have et : w.todo.dropLast ++ [p] = w.todo := by
    have := List.getLast?_eq_some_iff.mp hp
    obtain ⟨ys, hys⟩ := this
    rw [hys]
    simp
  have hpm : p ∈ w.todo := by rw [← et]; simp
  obtain ⟨own, hown⟩ := Option.isSome_iff_exists.mp (I.todo p hpm)
  have es : webStep ps w = (nbrs ps p).foldl (edgeStep own) ⟨w.signs, w.notes, w.todo.dropLast⟩ := by
    unfold webStep
    rw [hp]
    simp only
    rw [hown]
    rfl
  have I0 : WInv ps B Q root ⟨w.signs, w.notes, w.todo.dropLast⟩ := ⟨I.rt, I.nd, I.one, I.say, I.no, I.so, fun q hq => I.todo q (by rw [← et]; exact List.mem_append_left _ hq), I.bd, I.from_, I.nb⟩
  obtain ⟨b1, b2, b3, b4, b5, b6, b7, b8⟩ := edges_ok hO hQ (p := p) (own := own) (nbrs ps p) ⟨w.signs, w.notes, w.todo.dropLast⟩ I0 hown fun e he => ⟨he, hB p e he⟩
  rw [es]
  refine ⟨b1, fun q own' hq hn e he => ?_, ?_⟩
  · rcases b5 q own' hq with z | z
    · by_cases hqp : q = p
      · subst hqp
        have : own' = own := by
          have := hown.symm.trans z
          exact (Option.some.inj this).symm
        rw [this]
        exact b2 e he
      · have hq' : q ∉ w.todo := fun h => by
          rw [← et] at h
          rcases List.mem_append.mp h with y | y
          · exact hn (b8 q y)
          · exact hqp (List.mem_singleton.mp y)
        obtain ⟨so, s1, s2⟩ := D q own' z hq' e he
        exact b3 own' e ⟨so, s1, s2⟩
    · exact absurd z hn
  · simp only at b7
    have : w.todo.length = w.todo.dropLast.length + 1 := by
      rw [← et]
      simp
    omega
def web0 (root : Int) : Web := ⟨[(root, (1, 0))], [], [root]⟩
theorem web0_ok {ps : List Pr} {B : Nat} {Q : Int → Prop} {root : Int} (h : Q root) : WInv ps B Q root (web0 root) ∧ Done ps (web0 root) := by
  refine ⟨⟨by simp [web0, List.lookup], by simp [web0], by simp [web0], fun x _ k hk => ?_, (fun hn => nomatch hn), (fun n hn => nomatch hn), fun p hp => ?_, by simp [web0], fun k hk => ?_, (fun n hn => nomatch hn)⟩, fun p own h1 h2 => ?_⟩
  · rw [List.mem_singleton.mp hk]
    simp
  · rw [List.mem_singleton.mp hp]
    simp [web0, List.lookup]
  · rw [List.mem_singleton.mp hk]
    exact h
  · exfalso
    refine h2 ?_
    have := lookup_mem h1
    have := List.mem_singleton.mp this
    cases this
    simp [web0]
/-- a web gone along to its end -/
structure WebEnd (ps : List Pr) (B : Nat) (Q : Int → Prop) (root : Int) (signs : Signs) (notes : List (Option Int)) : Prop where
  inv : WInv ps B Q root ⟨signs, notes, []⟩
  done : Done ps ⟨signs, notes, []⟩
/-- notes by a choice of the root's -/
theorem web_all {ps : List Pr} (hO : Ones ps) {B : Nat} {Q : Int → Prop} {root : Int} {signs : Signs} {notes : List (Option Int)} (W : WebEnd ps B Q root signs notes) {v : Int} (hv : ∀ n ∈ notes, n = some v) {p : Int} {own : Int × Int} (hp : signs.lookup p = some own) {e : Edge} (he : e ∈ nbrs ps p) :
    ∃ so, signs.lookup e.1 = some so ∧ so.2 + so.1 * v = e.2.2 + e.2.1 * (own.2 + own.1 * v) := by
  obtain ⟨so, h1, h2⟩ := W.done p own hp (by simp) e he
  refine ⟨so, h1, ?_⟩
  have e0 : e.2.2 + e.2.1 * (own.2 + own.1 * v) = (comeOf own e).2 + (comeOf own e).1 * v := by
    show _ = e.2.2 + e.2.1 * own.2 + e.2.1 * own.1 * v
    rw [Int.mul_add, Int.mul_assoc]
    omega
  rw [e0]
  rcases h2 with h2 | h2
  · rw [h2]
  · have hn := hv _ h2
    have o1 := W.inv.one _ (lookup_mem h1)
    have o2 : (comeOf own e).1 = 1 ∨ (comeOf own e).1 = -1 := Ones.mul (edge_one hO he) (W.inv.one _ (lookup_mem hp))
    simp only at o1
    unfold noteOf at hn
    split at hn
    · rename_i hc
      have hn' := Option.some.inj hn
      obtain ⟨c1, c2⟩ := hc
      rcases o1 with e1 | e1 <;> rcases o2 with e2 | e2
      · exact absurd (e1.trans e2.symm) c1
      · rw [e2] at hn' c2; rw [e1, e2]; omega
      · rw [e2] at hn' c2; rw [e1, e2]; omega
      · exact absurd (e1.trans e2.symm) c1
    · cases hn
end Lad

-- M12
set_option linter.all false
set_option maxRecDepth 10000
namespace Lad
abbrev Found := List (Int × Ans)
abbrev Known := List (Int × Int)
def valA (g : Int → Int) : Ans → Int
  | .told n => n
  | .hang d r c => sgn d c (g r)
def absA : Ans → Nat
  | .told n => n.natAbs
  | .hang _ _ c => c.natAbs
def KSat (known : Known) (x : Int → Int) : Prop := ∀ k ∈ known, x k.1 = k.2
/-- a place that is met -/
def Met (ps : List Pr) (known : Known) (p : Int) : Prop := nbrs ps p ≠ [] ∨ ∃ k ∈ known, k.1 = p
structure SOk (ps : List Pr) (known : Known) (M : Nat) (F : Found) : Prop where
  cl : ∀ p, (F.lookup p).isSome = true → ∀ e ∈ nbrs ps p, (F.lookup e.1).isSome = true
  told : ∀ p n, F.lookup p = some (.told n) → ∀ x, PSat ps x → KSat known x → x p = n
  hang : ∀ p d r c, F.lookup p = some (.hang d r c) → (∀ x, PSat ps x → x p = sgn d c (x r)) ∧ F.lookup r = some (.hang false r 0) ∧ r ≤ p
  all : ∀ g p a, F.lookup p = some a → ∀ e ∈ nbrs ps p, ∃ a', F.lookup e.1 = some a' ∧ valA g a' = e.2.2 + e.2.1 * valA g a
  kn : ∀ k ∈ known, ∀ a, F.lookup k.1 = some a → ∀ g, valA g a = k.2
  bd : ∀ p a, F.lookup p = some a → absA a ≤ M
  met : ∀ p, (F.lookup p).isSome = true → Met ps known p
theorem sok_nil {ps : List Pr} {known : Known} {M : Nat} : SOk ps known M [] := ⟨(fun _ h => nomatch h), (fun _ _ h => nomatch h), (fun _ _ _ _ h => nomatch h), (fun _ _ _ h => nomatch h), (fun _ _ _ h => nomatch h), (fun _ _ h => nomatch h), (fun _ h => nomatch h)⟩
/-- notes that known places tell of the root -/
def moreNotes (known : Known) (signs : Signs) : List Int := known.filterMap fun k => (signs.lookup k.1).map fun so => so.1 * (k.2 - so.2)
def allNotes (known : Known) (signs : Signs) (notes : List (Option Int)) : List (Option Int) := notes ++ (moreNotes known signs).map some
def entry (root : Int) (ns : List (Option Int)) (so : Int × Int) : Ans := match ns with
  | some n :: _ => .told (so.2 + so.1 * n)
  | _ => .hang (so.1 != 1) root so.2
def entries (root : Int) (ns : List (Option Int)) (signs : Signs) : Found := signs.map fun k => (k.1, entry root ns k.2)
theorem lookup_map {signs : Signs} {f : Int × Int → Ans} {p : Int} : (signs.map fun k => (k.1, f k.2)).lookup p = (signs.lookup p).map f := by
  induction signs with
  | nil => rfl
  | cons a l ih =>
    obtain ⟨b, u⟩ := a
    rw [List.map_cons]
    by_cases h : p = b
    · subst h; simp [List.lookup]
    · have : (p == b) = false := beq_eq_false_iff_ne.mpr h
      simp only [List.lookup, this]
      exact ih
theorem lookup_app {F F' : Found} {p : Int} : (F ++ F').lookup p = match F.lookup p with
    | some a => some a
    | none => F'.lookup p := by
  induction F with
  | nil => rfl
  | cons a l ih =>
    obtain ⟨b, u⟩ := a
    rw [List.cons_append]
    by_cases h : p = b
    · subst h; simp [List.lookup]
    · have : (p == b) = false := beq_eq_false_iff_ne.mpr h
      simp only [List.lookup, this]
      exact ih
theorem more_so {ps : List Pr} {known : Known} {B : Nat} {Q : Int → Prop} {root : Int} {signs : Signs} {notes : List (Option Int)} (W : WebEnd ps B Q root signs notes) {n : Int} (h : n ∈ moreNotes known signs) {x : Int → Int} (hx : PSat ps x) (hk : KSat known x) : x root = n := by
  unfold moreNotes at h
  obtain ⟨k, hk1, hk2⟩ := List.mem_filterMap.mp h
  cases hl : signs.lookup k.1 with
  | none => rw [hl] at hk2; cases hk2
  | some so =>
    rw [hl] at hk2
    have e := Option.some.inj hk2
    simp only at e
    have m := lookup_mem hl
    have h1 := W.inv.say x hx _ m
    have h2 := hk k hk1
    rcases W.inv.one _ m with o | o
    · simp only at o h1
      rw [o] at e h1; omega
    · simp only at o h1
      rw [o] at e h1; omega
theorem note_so {ps : List Pr} {known : Known} {B : Nat} {Q : Int → Prop} {root : Int} {signs : Signs} {notes : List (Option Int)} (W : WebEnd ps B Q root signs notes) {o : Option Int} (h : o ∈ allNotes known signs notes) {x : Int → Int} (hx : PSat ps x) (hk : KSat known x) : o = some (x root) := by
  rcases List.mem_append.mp h with q | q
  · cases o with
    | none => exact absurd hx (W.inv.no q x)
    | some n => rw [W.inv.so n q x hx]
  · obtain ⟨n, hn, e⟩ := List.mem_map.mp q
    rw [← e, more_so W hn hx hk]
/-- what the step needs: all notes alike -/
def Alike (ns : List (Option Int)) : Prop := ns = [] ∨ ∃ n, ∀ o ∈ ns, o = some n
theorem more_bd {ps : List Pr} {known : Known} {B N : Nat} {Q : Int → Prop} {root : Int} {signs : Signs} {notes : List (Option Int)} (W : WebEnd ps B Q root signs notes) (hK : ∀ k ∈ known, k.2.natAbs ≤ B) (hN : signs.length ≤ N) {n : Int} (h : some n ∈ allNotes known signs notes) : n.natAbs ≤ 2 * N * B + B := by
  have h2N : 2 * signs.length * B ≤ 2 * N * B := Nat.mul_le_mul_right _ (by omega)
  have h1N : (signs.length - 1) * B ≤ 2 * N * B := Nat.mul_le_mul_right _ (by omega)
  rcases List.mem_append.mp h with q | q
  · have := W.inv.nb n q
    simp only at this
    omega
  · obtain ⟨m, hm, e⟩ := List.mem_map.mp q
    have e' := Option.some.inj e
    rw [← e']
    unfold moreNotes at hm
    obtain ⟨k, hk1, hk2⟩ := List.mem_filterMap.mp hm
    cases hl : signs.lookup k.1 with
    | none => rw [hl] at hk2; cases hk2
    | some so =>
      rw [hl] at hk2
      have e2 := Option.some.inj hk2
      simp only at e2
      have ms := lookup_mem hl
      have b1 := W.inv.bd _ ms
      have b2 := hK k hk1
      simp only at b1
      rw [← e2, one_abs (W.inv.one _ ms)]
      omega
theorem settle_step {ps : List Pr} (hO : Ones ps) {known : Known} {B N : Nat} (hK : ∀ k ∈ known, k.2.natAbs ≤ B) {F : Found} (S : SOk ps known (4 * N * B + B) F) {root : Int} (hr : F.lookup root = none) {signs : Signs} {notes : List (Option Int)}
    (W : WebEnd ps B (fun k => F.lookup k = none ∧ Met ps known k) root signs notes) (hlow : ∀ p, Met ps known p → p < root → (F.lookup p).isSome = true) (hN : signs.length ≤ N) (hA : Alike (allNotes known signs notes)) :
    SOk ps known (4 * N * B + B) (F ++ entries root (allNotes known signs notes) signs) ∧ (∀ p, (F ++ entries root (allNotes known signs notes) signs).lookup p = match F.lookup p with
      | some a => some a
      | none => (signs.lookup p).map (entry root (allNotes known signs notes))) := by
  have hl : ∀ p, (F ++ entries root (allNotes known signs notes) signs).lookup p = match F.lookup p with
      | some a => some a
      | none => (signs.lookup p).map (entry root (allNotes known signs notes)) := fun p => by
    rw [lookup_app]
    unfold entries
    rw [lookup_map]
  have new : ∀ p so, signs.lookup p = some so → (F ++ entries root (allNotes known signs notes) signs).lookup p = some (entry root (allNotes known signs notes) so) := fun p so h => by
    rw [hl, (W.inv.from_ _ (lookup_mem h)).1]
    simp only
    rw [h]
    rfl
  have old : ∀ p a, F.lookup p = some a → (F ++ entries root (allNotes known signs notes) signs).lookup p = some a := fun p a h => by
    rw [hl, h]
  have split : ∀ p a, (F ++ entries root (allNotes known signs notes) signs).lookup p = some a → F.lookup p = some a ∨ ∃ so, signs.lookup p = some so ∧ a = entry root (allNotes known signs notes) so := fun p a h => by
    rw [hl] at h
    cases hf : F.lookup p with
    | some b =>
      rw [hf] at h
      exact .inl h
    | none =>
      rw [hf] at h
      simp only at h
      cases hs : signs.lookup p with
      | none => rw [hs] at h; cases h
      | some so =>
        rw [hs] at h
        exact .inr ⟨so, rfl, (Option.some.inj h).symm⟩
  -- the entries, by the root's note
  obtain ⟨v, hv, ev⟩ : ∃ v : (Int → Int) → Int, (∀ g, ∀ o ∈ allNotes known signs notes, o = some (v g)) ∧ ∀ g so, (so.1 = 1 ∨ so.1 = -1) → valA g (entry root (allNotes known signs notes) so) = so.2 + so.1 * v g := by
    rcases hA with h | ⟨n, h⟩
    · rw [h]
      refine ⟨fun g => g root, (fun _ _ h => nomatch h), fun g so ho => ?_⟩
      show sgn (so.1 != 1) so.2 (g root) = _
      unfold sgn
      rcases ho with e | e
      · rw [e]; simp
      · rw [e]; simp; omega
    · cases hn : allNotes known signs notes with
      | nil =>
        refine ⟨fun g => g root, (fun _ _ h => nomatch h), fun g so ho => ?_⟩
        show sgn (so.1 != 1) so.2 (g root) = _
        unfold sgn
        rcases ho with e | e
        · rw [e]; simp
        · rw [e]; simp; omega
      | cons o os =>
        rw [hn] at h
        refine ⟨fun _ => n, fun _ => h, fun g so ho => ?_⟩
        rw [h o List.mem_cons_self]
        rfl
  have hv' : ∀ g, ∀ o ∈ notes, o = some (v g) := fun g o ho => hv g o (List.mem_append_left _ ho)
  refine ⟨⟨fun p hp e he => ?_, fun p n hp x hx hk => ?_, fun p d r c hp => ?_, fun g p a hp e he => ?_, fun k hk a ha g => ?_, fun p a hp => ?_, fun p hp => ?_⟩, hl⟩
  · obtain ⟨a, ha⟩ := Option.isSome_iff_exists.mp hp
    rcases split p a ha with h | ⟨so, h, _⟩
    · obtain ⟨b, hb⟩ := Option.isSome_iff_exists.mp (S.cl p (by rw [h]; rfl) e he)
      rw [old _ _ hb]
      rfl
    · obtain ⟨so', h1, _⟩ := W.done p so h (by simp) e he
      rw [new _ _ h1]
      rfl
  · rcases split p _ hp with h | ⟨so, h, he⟩
    · exact S.told p n h x hx hk
    · have h1 := W.inv.say x hx _ (lookup_mem h)
      cases hn : allNotes known signs notes with
      | nil => rw [hn] at he; cases he
      | cons o os =>
        have ho := note_so W (o := o) (by rw [hn]; exact List.mem_cons_self) hx hk
        rw [hn, ho] at he
        have he' : Ans.told n = Ans.told (so.2 + so.1 * x root) := he
        injection he' with he2
        rw [he2]
        exact h1
  · rcases split p _ hp with h | ⟨so, h, he⟩
    · obtain ⟨h1, h2, h3⟩ := S.hang p d r c h
      exact ⟨h1, old _ _ h2, h3⟩
    · have hs := fun x hx => W.inv.say x hx _ (lookup_mem h)
      have o1 := W.inv.one _ (lookup_mem h)
      have hn : allNotes known signs notes = [] := by
        rcases hA with z | ⟨n, z⟩
        · exact z
        · cases hn : allNotes known signs notes with
          | nil => rfl
          | cons o os =>
            rw [hn] at z he
            rw [z o List.mem_cons_self] at he
            cases he
      rw [hn] at he
      have he' : Ans.hang d r c = Ans.hang (so.1 != 1) root so.2 := he
      injection he' with e1 e2 e3
      subst e1 e2 e3
      refine ⟨fun x hx => ?_, ?_, ?_⟩
      · have := hs x hx
        simp only at this o1
        rw [this]
        unfold sgn
        rcases o1 with e | e
        · rw [e]; simp
        · rw [e]; simp; omega
      · rw [new r (1, 0) W.inv.rt, hn]
        rfl
      · have m := (W.inv.from_ _ (lookup_mem h)).2
        have nn := (W.inv.from_ _ (lookup_mem h)).1
        simp only at m nn
        by_cases hlt : p < r
        · have := hlow p m hlt
          rw [nn] at this
          cases this
        · omega
  · rcases split p a hp with h | ⟨so, h, hea⟩
    · obtain ⟨a', h1, h2⟩ := S.all g p a h e he
      exact ⟨a', old _ _ h1, h2⟩
    · obtain ⟨so', h1, h2⟩ := web_all hO W (hv' g) h he
      refine ⟨_, new _ _ h1, ?_⟩
      rw [hea, ev g so (W.inv.one _ (lookup_mem h)), ev g so' (W.inv.one _ (lookup_mem h1)), h2]
  · rcases split k.1 a ha with h | ⟨so, h, hea⟩
    · exact S.kn k hk a h g
    · have o1 := W.inv.one _ (lookup_mem h)
      simp only at o1
      rw [hea, ev g so o1]
      have hm : some (so.1 * (k.2 - so.2)) ∈ allNotes known signs notes := by
        refine List.mem_append_right _ (List.mem_map.mpr ⟨_, ?_, rfl⟩)
        unfold moreNotes
        exact List.mem_filterMap.mpr ⟨k, hk, by rw [h]; rfl⟩
      have := Option.some.inj (hv g _ hm)
      rcases o1 with e | e
      · rw [e] at this ⊢; omega
      · rw [e] at this ⊢; omega
  · rcases split p a hp with h | ⟨so, h, hea⟩
    · exact S.bd p a h
    · have b1 := W.inv.bd _ (lookup_mem h)
      have o1 := W.inv.one _ (lookup_mem h)
      simp only at b1 o1
      have h1N : (signs.length - 1) * B ≤ N * B := Nat.mul_le_mul_right _ (by omega)
      have h4 : 4 * N * B = 4 * (N * B) := Nat.mul_assoc _ _ _
      have h2 : 2 * N * B = 2 * (N * B) := Nat.mul_assoc _ _ _
      rw [hea]
      unfold entry
      split
      · rename_i n os hn
        have b2 := more_bd W hK hN (n := n) (by rw [hn]; exact List.mem_cons_self)
        show (so.2 + so.1 * n).natAbs ≤ _
        have b3 := one_abs o1 n
        omega
      · show so.2.natAbs ≤ _
        omega
  · obtain ⟨a, ha⟩ := Option.isSome_iff_exists.mp hp
    rcases split p a ha with h | ⟨so, h, _⟩
    · exact S.met p (by rw [h]; rfl)
    · exact (W.inv.from_ _ (lookup_mem h)).2
/-- no notes keep what two notes contradict -/
theorem settle_none {ps : List Pr} {known : Known} {B : Nat} {Q : Int → Prop} {root : Int} {signs : Signs} {notes : List (Option Int)} (W : WebEnd ps B Q root signs notes) (h : ¬ Alike (allNotes known signs notes)) : ∀ x, PSat ps x → ¬ KSat known x := fun x hx hk =>
  h (.inr ⟨x root, fun o ho => note_so W ho hx hk⟩)
/-- all places met are settled -/
theorem settle_nf {ps : List Pr} (hO : Ones ps) {known : Known} {M : Nat} {F : Found} (S : SOk ps known M F) (hall : ∀ p, Met ps known p → (F.lookup p).isSome = true) :
    NF (fun x => PSat ps x ∧ KSat known x) (fun _ => True) (fun p => (F.lookup p).getD (.hang false p 0)) := by
  refine ⟨fun p n _ e x hx => ?_, fun p d q c _ e => ?_, fun g => ?_⟩
  · cases h : F.lookup p with
    | none => rw [h] at e; cases e
    | some a =>
      rw [h] at e
      have e' : a = .told n := e
      rw [e'] at h
      exact S.told p n h x hx.1 hx.2
  · cases h : F.lookup p with
    | none =>
      rw [h] at e
      have e' : Ans.hang false p 0 = Ans.hang d q c := e
      injection e' with e1 e2 e3
      subst e1 e2 e3
      refine ⟨fun x _ => by unfold sgn; simp, True.intro, Int.le_refl _, ?_⟩
      rw [h]
      rfl
    | some a =>
      rw [h] at e
      have e' : a = .hang d q c := e
      rw [e'] at h
      obtain ⟨h1, h2, h3⟩ := S.hang p d q c h
      refine ⟨fun x hx => h1 x hx.1, True.intro, h3, ?_⟩
      rw [h2]
      rfl
  · refine ⟨fun p => valA g ((F.lookup p).getD (.hang false p 0)), ⟨fun r hr => ?_, fun k hk => ?_⟩, fun q _ e => ?_⟩
    · have he : (r.q, r.s, r.a) ∈ nbrs ps r.p := mem_nbrs.mpr ⟨r, hr, .inl ⟨rfl, rfl⟩⟩
      obtain ⟨a, ha⟩ := Option.isSome_iff_exists.mp (hall r.p (.inl (List.ne_nil_of_mem he)))
      obtain ⟨a', h1, h2⟩ := S.all g r.p a ha _ he
      simp only at h1 h2 ⊢
      rw [h1, ha]
      exact h2
    · obtain ⟨a, ha⟩ := Option.isSome_iff_exists.mp (hall k.1 (.inr ⟨k, hk, rfl⟩))
      simp only
      rw [ha]
      exact S.kn k hk a ha g
    · show valA g ((F.lookup q).getD (.hang false q 0)) = g q
      have e' : (F.lookup q).getD (.hang false q 0) = .hang false q 0 := e
      rw [e']
      show sgn false 0 (g q) = g q
      unfold sgn
      simp
end Lad

-- M13
set_option linter.all false
set_option maxRecDepth 10000
namespace Lad
/-! ### ties of a lore, and rows of places -/
structure Row where
  f : Int
  s : Int
  l : Int
  d : Bool
  a : Int
  b : Bool
deriving DecidableEq
def Row.par (r : Row) (k : Int) : Int := if r.b then r.s + r.l - 1 - k else r.s + k
def sg (d : Bool) : Int := if d then -1 else 1
def rowPairs (r : Row) : List Pr := (List.range r.l.toNat).map fun (k : Nat) => ⟨r.f + (k : Int), r.par (k : Int), sg r.d, r.a⟩
def pairsOf (rs : List Row) : List Pr := rs.flatMap rowPairs
structure RowOk (n : Int) (r : Row) : Prop where
  f0 : 0 ≤ r.f
  s0 : 0 ≤ r.s
  l1 : 1 ≤ r.l
  fe : r.f + r.l ≤ n
  se : r.s + r.l ≤ n
  bb : r.b = true → 1 < r.l
def pinRow (k : Int × Int) : Row := ⟨k.1, k.1, 1, true, 2 * k.2, false⟩
def allRows (rs : List Row) (ks : Known) : List Row := rs ++ ks.map pinRow
def blockRow (w : Int) (r : Row) : Row := ⟨r.f * w, r.s * w, r.l * w, r.d, r.a, r.b⟩
def tieOf (r : Row) : Ti := tie r.f r.s r.l r.a r.d r.b
def bigTies (w : Int) (rs : List Row) : List Ti := rs.map fun r => tieOf (blockRow w r)
def spot (w o p : Int) (t : Bool) : Int := p * w + (if t then w - 1 - o else o)
def blockPair (w o : Int) (b : Bool) (r : Pr) : List Pr := [⟨spot w o r.p false, spot w o r.q (false != b), r.s, r.a⟩, ⟨spot w o r.p true, spot w o r.q (true != b), r.s, r.a⟩]
def blockPairs (w o : Int) (rs : List Row) : List Pr := rs.flatMap fun r => (rowPairs r).flatMap (blockPair w o r.b)
theorem mem_rowPairs {r : Row} (h : 1 ≤ r.l) {z : Pr} : z ∈ rowPairs r ↔ ∃ k : Int, 0 ≤ k ∧ k < r.l ∧ z = ⟨r.f + k, r.par k, sg r.d, r.a⟩ := by
  unfold rowPairs
  rw [List.mem_map]
  constructor
  · rintro ⟨k, hk, e⟩
    have := List.mem_range.mp hk
    exact ⟨k, by omega, by omega, e.symm⟩
  · rintro ⟨k, h0, h1, e⟩
    refine ⟨k.toNat, List.mem_range.mpr (by omega), ?_⟩
    rw [e]
    have : ((k.toNat : Nat) : Int) = k := by omega
    rw [this]
theorem led_sg (d : Bool) (a v : Int) : (if d then a - v else a + v) = a + sg d * v := by
  unfold sg
  cases d <;> simp <;> omega
/-- what the big tie of a row says -/
theorem holds_big {w : Int} (hw : 1 ≤ w) {r : Row} (h : 1 ≤ r.l) {x : Int → Int} : Holds x (tieOf (blockRow w r)) ↔ ∀ k j : Int, 0 ≤ k → k < r.l → 0 ≤ j → j < w → x (r.par k * w + (if r.b then w - 1 - j else j)) = r.a + sg r.d * x ((r.f + k) * w + j) := by
  unfold tieOf blockRow
  rw [holds_mk]
  unfold Raw
  simp only
  constructor
  · intro hx k j k0 k1 j0 j1
    have m1 : k * w + j < r.l * w := by
      have : (k + 1) * w ≤ r.l * w := Int.mul_le_mul_of_nonneg_right (by omega) (by omega)
      rw [Int.add_mul] at this
      omega
    have m0 : 0 ≤ k * w := Int.mul_nonneg k0 (by omega)
    have q := hx ((r.f + k) * w + j) (by rw [Int.add_mul]; omega) (by rw [Int.add_mul]; omega)
    rw [led_sg] at q
    rw [← q]
    congr 1
    unfold Row.par
    cases r.b with
    | true =>
      simp only [if_true]
      have e1 : (r.s + r.l - 1 - k) * w = r.s * w + r.l * w - w - k * w := by
        rw [Int.sub_mul, Int.sub_mul, Int.add_mul]
        omega
      rw [e1, Int.add_mul]
      omega
    | false =>
      simp only [Bool.false_eq_true, if_false]
      rw [Int.add_mul, Int.add_mul]
      omega
  · intro hx p p0 p1
    have d0 := Int.emod_nonneg (p - r.f * w) (show w ≠ 0 by omega)
    have d1 := Int.emod_lt_of_pos (p - r.f * w) (show 0 < w by omega)
    have d2 := Int.emod_add_mul_ediv (p - r.f * w) w
    have k0 : 0 ≤ (p - r.f * w) / w := Int.ediv_nonneg (by omega) (by omega)
    have k1 : (p - r.f * w) / w < r.l := Int.ediv_lt_of_lt_mul (by omega) (by omega)
    generalize (p - r.f * w) / w = k at *
    generalize (p - r.f * w) % w = j at *
    have q := hx k j k0 k1 d0 d1
    have ep : (r.f + k) * w + j = p := by
      rw [Int.add_mul, Int.mul_comm k w]
      omega
    rw [ep] at q
    rw [led_sg, ← q]
    congr 1
    unfold Row.par
    cases r.b with
    | true =>
      simp only [if_true]
      have e1 : (r.s + r.l - 1 - k) * w = r.s * w + r.l * w - w - k * w := by
        rw [Int.sub_mul, Int.sub_mul, Int.add_mul]
        omega
      rw [e1, Int.mul_comm k w]
      omega
    | false =>
      simp only [Bool.false_eq_true, if_false]
      rw [Int.add_mul, Int.mul_comm k w]
      omega
theorem div_row {w p j : Int} (hw : 1 ≤ w) (h0 : 0 ≤ j) (h1 : j < w) : (p * w + j) / w = p ∧ (p * w + j) % w = j := by
  constructor
  · rw [Int.add_comm, Int.add_mul_ediv_right _ _ (by omega), Int.ediv_eq_zero_of_lt h0 h1]
    omega
  · rw [Int.add_comm, Int.add_mul_emod_self_right]
    exact Int.emod_eq_of_lt h0 h1
/-- a melody of the lore, each note made a row -/
theorem lore_sol {w n : Int} (hw : 1 ≤ w) {rs : List Row} (hr : ∀ r ∈ rs, RowOk n r) {ks : Known} {x : Int → Int} (h1 : PSat (pairsOf rs) x) (h2 : KSat ks x) : Sat (bigTies w (allRows rs ks)) (fun p => x (p / w)) := by
  intro t ht
  obtain ⟨r, hr1, rfl⟩ := List.mem_map.mp ht
  unfold allRows at hr1
  rcases List.mem_append.mp hr1 with hr2 | hr2
  · have O := hr r hr2
    rw [holds_big hw O.l1]
    intro k j k0 k1 j0 j1
    have e1 : (r.par k * w + (if r.b then w - 1 - j else j)) / w = r.par k := (div_row hw (by split <;> omega) (by split <;> omega)).1
    have e2 : ((r.f + k) * w + j) / w = r.f + k := (div_row hw j0 j1).1
    simp only [e1, e2]
    exact h1 ⟨r.f + k, r.par k, sg r.d, r.a⟩ (List.mem_flatMap.mpr ⟨r, hr2, (mem_rowPairs O.l1).mpr ⟨k, k0, k1, rfl⟩⟩)
  · obtain ⟨z, hz, rfl⟩ := List.mem_map.mp hr2
    rw [holds_big hw (show 1 ≤ (pinRow z).l from Int.le_refl _)]
    intro k j k0 k1 j0 j1
    have k1' : k < 1 := k1
    have ek : k = 0 := by omega
    subst ek
    have e1 : ((pinRow z).par 0 * w + (if (pinRow z).b then w - 1 - j else j)) / w = z.1 := by
      have : (pinRow z).par 0 = z.1 := by unfold Row.par pinRow; simp
      rw [this]
      exact (div_row hw (by split <;> omega) (by split <;> omega)).1
    have e2 : (((pinRow z).f + 0) * w + j) / w = z.1 := by
      have : (pinRow z).f + 0 = z.1 := by unfold pinRow; simp
      rw [this]
      exact (div_row hw j0 j1).1
    simp only [e1, e2]
    rw [h2 z hz]
    show z.2 = 2 * z.2 + sg true * z.2
    unfold sg
    simp
    omega
/-! ### one offset and its mirror image -/
def Cls (w o p : Int) : Prop := p % w = o ∨ p % w = w - 1 - o
theorem mem_block {w o : Int} {rs : List Row} {z : Pr} : z ∈ blockPairs w o rs ↔ ∃ r ∈ rs, ∃ y ∈ rowPairs r, ∃ t : Bool, z = ⟨spot w o y.p t, spot w o y.q (t != r.b), y.s, y.a⟩ := by
  unfold blockPairs blockPair
  rw [List.mem_flatMap]
  refine exists_congr fun r => and_congr_right fun _ => ?_
  rw [List.mem_flatMap]
  refine exists_congr fun y => and_congr_right fun _ => ?_
  constructor
  · intro h
    rcases List.mem_cons.mp h with e | h
    · exact ⟨false, e⟩
    · exact ⟨true, List.mem_singleton.mp h⟩
  · rintro ⟨t, e⟩
    cases t
    · rw [e]; exact List.mem_cons_self
    · rw [e]; exact List.mem_cons_of_mem _ (List.mem_singleton.mpr rfl)
section
variable {w o n : Int} (hw : 1 ≤ w) (o0 : 0 ≤ o) (o1 : o < w) {rs : List Row} (hr : ∀ r ∈ rs, RowOk n r)
include hw o0 o1 hr
theorem big_pairs {x : Int → Int} (h : Sat (bigTies w rs) x) : PSat (blockPairs w o rs) x := by
  intro z hz
  obtain ⟨r, hr1, y, hy, t, rfl⟩ := mem_block.mp hz
  have O := hr r hr1
  obtain ⟨k, k0, k1, rfl⟩ := (mem_rowPairs O.l1).mp hy
  have q := (holds_big hw O.l1).mp (h _ (List.mem_map.mpr ⟨r, hr1, rfl⟩)) k (if t then w - 1 - o else o) k0 k1 (by split <;> omega) (by split <;> omega)
  show x (r.par k * w + (if (t != r.b) = true then w - 1 - o else o)) = r.a + sg r.d * x ((r.f + k) * w + (if t then w - 1 - o else o))
  rw [← q]
  congr 2
  cases t <;> cases r.b <;> simp <;> omega
theorem pairs_big {x y : Int → Int} (hx : PSat (blockPairs w o rs) x) (hy : Sat (bigTies w rs) y) : Sat (bigTies w rs) (fun p => if p % w = o ∨ p % w = w - 1 - o then x p else y p) := by
  intro t ht
  obtain ⟨r, hr1, rfl⟩ := List.mem_map.mp ht
  have O := hr r hr1
  have q := (holds_big hw O.l1).mp (hy _ ht)
  rw [holds_big hw O.l1]
  intro k j k0 k1 j0 j1
  have e1 : (r.par k * w + (if r.b then w - 1 - j else j)) % w = (if r.b then w - 1 - j else j) := (div_row hw (by split <;> omega) (by split <;> omega)).2
  have e2 : ((r.f + k) * w + j) % w = j := (div_row hw j0 j1).2
  simp only [e1, e2]
  by_cases hc : j = o ∨ j = w - 1 - o
  · rw [if_pos (by cases r.b <;> simp <;> omega), if_pos hc]
    -- which of the two
    obtain ⟨t, ht⟩ : ∃ t : Bool, j = if t then w - 1 - o else o := by
      rcases hc with h | h
      · exact ⟨false, by simp [h]⟩
      · exact ⟨true, by simp [h]⟩
    have z := hx ⟨spot w o (r.f + k) t, spot w o (r.par k) (t != r.b), sg r.d, r.a⟩ (mem_block.mpr ⟨r, hr1, _, (mem_rowPairs O.l1).mpr ⟨k, k0, k1, rfl⟩, t, rfl⟩)
    unfold spot at z
    simp only at z
    rw [ht, ← z]
    congr 2
    cases t <;> cases r.b <;> simp <;> omega
  · rw [if_neg (by cases r.b <;> simp <;> omega), if_neg hc]
    exact q k j k0 k1 j0 j1
theorem block_met {p : Int} (h : Met (blockPairs w o rs) [] p) : (0 ≤ p ∧ p < n * w) ∧ (p % w = o ∨ p % w = w - 1 - o) := by
  rcases h with h | ⟨k, hk, _⟩
  · obtain ⟨e, he⟩ := List.exists_mem_of_ne_nil _ h
    obtain ⟨z, hz, hh⟩ := mem_nbrs.mp he
    obtain ⟨r, hr1, y, hy, t, rfl⟩ := mem_block.mp hz
    have O := hr r hr1
    obtain ⟨k, k0, k1, rfl⟩ := (mem_rowPairs O.l1).mp hy
    have gen : ∀ (c : Int) (u : Bool), 0 ≤ c → c < n → (0 ≤ spot w o c u ∧ spot w o c u < n * w) ∧ (spot w o c u % w = o ∨ spot w o c u % w = w - 1 - o) := fun c u c0 c1 => by
      have m0 : 0 ≤ c * w := Int.mul_nonneg c0 (by omega)
      have m1 : (c + 1) * w ≤ n * w := Int.mul_le_mul_of_nonneg_right (by omega) (by omega)
      rw [Int.add_mul] at m1
      unfold spot
      have e := (div_row (p := c) hw (j := if u then w - 1 - o else o) (by split <;> omega) (by split <;> omega)).2
      rw [e]
      refine ⟨⟨by split <;> omega, by split <;> omega⟩, ?_⟩
      cases u
      · exact .inl rfl
      · exact .inr rfl
    have a1 := O.f0
    have a2 := O.fe
    have a3 := O.s0
    have a4 := O.se
    rcases hh with ⟨e1, _⟩ | ⟨e1, _⟩
    · rw [← e1]
      exact gen (r.f + k) t (by omega) (by omega)
    · rw [← e1]
      exact gen (r.par k) (t != r.b) (by unfold Row.par; split <;> omega) (by unfold Row.par; split <;> omega)
  · cases hk
/-- what the ladder says of one offset and its mirror image -/
theorem lad_class {ans : Int → Ans} (A : NF (Sat (bigTies w rs)) (fun p => 0 ≤ p ∧ p < n * w) ans) :
    NF (fun x => PSat (blockPairs w o rs) x ∧ KSat [] x) (fun p => (0 ≤ p ∧ p < n * w) ∧ (p % w = o ∨ p % w = w - 1 - o)) ans := by
  obtain ⟨y0, hy0, _⟩ := A.free fun _ => 0
  have comb : ∀ x, PSat (blockPairs w o rs) x → Sat (bigTies w rs) (fun p => if p % w = o ∨ p % w = w - 1 - o then x p else y0 p) := fun x hx => pairs_big hw o0 o1 hr hx hy0
  refine ⟨fun p m hp e x hx => ?_, fun p d q c hp e => ?_, fun g => ?_⟩
  · have := A.told p m hp.1 e _ (comb x hx.1)
    rwa [if_pos hp.2] at this
  · obtain ⟨h1, h2, h3, h4⟩ := A.hang p d q c hp.1 e
    have hq : q % w = o ∨ q % w = w - 1 - o := by
      by_cases hc : q % w = o ∨ q % w = w - 1 - o
      · exact hc
      · exfalso
        obtain ⟨z, hz, fz⟩ := A.free fun _ => y0 q + 1
        have z1 := fz q h2 h4
        have z2 := h1 z hz
        have z3 := h1 _ (comb z (big_pairs hw o0 o1 hr hz))
        rw [if_pos hp.2, if_neg hc, z2, z1] at z3
        unfold sgn at z3
        cases d <;> simp at z3 <;> omega
    refine ⟨fun x hx => ?_, ⟨h2, hq⟩, h3, h4⟩
    have := h1 _ (comb x hx.1)
    rwa [if_pos hp.2, if_pos hq] at this
  · obtain ⟨x, hx, fx⟩ := A.free g
    exact ⟨x, ⟨big_pairs hw o0 o1 hr hx, fun _ h => nomatch h⟩, fun q hq e => fx q hq.1 e⟩
/-- both tell the same -/
theorem both_same {C : List Cut} (L : LadOk (n * w) (bigTies w rs) C) {M : Nat} {F : Found} (S : SOk (blockPairs w o rs) [] M F) (hO : Ones (blockPairs w o rs)) (hall : ∀ p, Met (blockPairs w o rs) [] p → (F.lookup p).isSome = true)
    {p : Int} (hp : 0 ≤ p ∧ p < n * w) (hc : p % w = o ∨ p % w = w - 1 - o) : (F.lookup p).getD (.hang false p 0) = readC C p 0 false := by
  have B := settle_nf hO S hall
  have B' : NF (fun x => PSat (blockPairs w o rs) x ∧ KSat [] x) (fun p => (0 ≤ p ∧ p < n * w) ∧ (p % w = o ∨ p % w = w - 1 - o)) (fun p => (F.lookup p).getD (.hang false p 0)) := by
    refine ⟨fun p m _ e => B.told p m True.intro e, fun p d q c hp e => ?_, fun g => ?_⟩
    · obtain ⟨h1, _, h3, h4⟩ := B.hang p d q c True.intro e
      refine ⟨h1, ?_, h3, h4⟩
      cases hf : F.lookup p with
      | none =>
        rw [hf] at e
        have e' : Ans.hang false p 0 = Ans.hang d q c := e
        injection e' with _ e2 _
        rw [← e2]
        exact hp
      | some a =>
        rw [hf] at e
        have e' : a = .hang d q c := e
        rw [e'] at hf
        obtain ⟨_, s2, _⟩ := S.hang p d q c hf
        exact block_met hw o0 o1 hr (S.met q (by rw [s2]; rfl))
    · obtain ⟨x, hx, fx⟩ := B.free g
      exact ⟨x, hx, fun q _ e => fx q True.intro e⟩
  exact (nf_one B' (lad_class hw o0 o1 hr (lad_nf L)) (p := p) ⟨hp, hc⟩)
end
end Lad

-- M14
set_option linter.all false
set_option maxRecDepth 10000
namespace Lad
/-! ### the grid of a width -/
def grid1 : Grid where
  D := fun _ => True
  B := fun _ => True
  rk := fun z => z.toNat
  d0 := True.intro
  add := fun _ _ => True.intro
  sub := fun _ _ => True.intro
  sh := fun _ _ => True.intro
  ng := fun _ => True.intro
  hf := fun _ => ⟨True.intro, True.intro⟩
  mono := fun _ _ h1 h2 => by omega
def gB (w z : Int) : Prop := z % w = 0 ∨ z % w = w / 2 ∨ z % w = (w + 1) / 2
def gD (w z : Int) : Prop := ∃ k, z = k * w
def gR (w z : Int) : Nat := 3 * (z / w).toNat + (if z % w = 0 then 0 else if z % w = w / 2 then 1 else 2)
def gridW (w : Int) (hw : 2 ≤ w) : Grid where
  D := gD w
  B := gB w
  rk := gR w
  d0 := ⟨0, by simp⟩
  add := fun ⟨k, hk⟩ ⟨m, hm⟩ => ⟨k + m, by rw [hk, hm, Int.add_mul]⟩
  sub := fun ⟨k, hk⟩ ⟨m, hm⟩ => ⟨k - m, by rw [hk, hm, Int.sub_mul]⟩
  sh := fun {z k} h ⟨m, hm⟩ => by
    unfold gB at h ⊢
    rw [hm, Int.add_mul_emod_self_right]
    exact h
  ng := fun {z} h => by
    unfold gB at h ⊢
    have h0 := Int.emod_nonneg z (show w ≠ 0 by omega)
    have h1 := Int.emod_lt_of_pos z (show 0 < w by omega)
    have h2 := Int.emod_add_mul_ediv z w
    have e : -z = (w - z % w) + (-(z / w) - 1) * w := by
      rw [Int.sub_mul, Int.neg_mul, Int.mul_comm (z / w) w]
      omega
    by_cases hz : z % w = 0
    · left
      have e2 : -z = -(z / w) * w := by
        rw [Int.neg_mul, Int.mul_comm (z / w) w]
        omega
      rw [e2, Int.mul_emod_left]
    · rw [e, Int.add_mul_emod_self_right, Int.emod_eq_of_lt (by omega) (by omega)]
      omega
  hf := fun {c} ⟨k, hk⟩ => by
    have key : ∀ (m r : Int), 0 ≤ r → r < w → (m * w + r) % w = r := fun m r h0 h1 => by
      rw [Int.add_comm, Int.add_mul_emod_self_right]
      exact Int.emod_eq_of_lt h0 h1
    have h2 : k % 2 = 0 ∨ k % 2 = 1 := by omega
    rcases h2 with h2 | h2
    · obtain ⟨m, rfl⟩ : ∃ m, k = m * 2 := ⟨k / 2, by omega⟩
      have e1 : c / 2 = m * w + 0 := by
        have : m * 2 * w = m * w * 2 := by rw [Int.mul_assoc, Int.mul_comm 2 w, ← Int.mul_assoc]
        omega
      have e2 : (c + 1) / 2 = m * w + 0 := by
        have : m * 2 * w = m * w * 2 := by rw [Int.mul_assoc, Int.mul_comm 2 w, ← Int.mul_assoc]
        omega
      unfold gB
      rw [e1, e2, key m 0 (Int.le_refl _) (by omega)]
      exact ⟨.inl rfl, .inl rfl⟩
    · obtain ⟨m, rfl⟩ : ∃ m, k = m * 2 + 1 := ⟨k / 2, by omega⟩
      have em : (m * 2 + 1) * w = m * w * 2 + w := by rw [Int.add_mul, Int.mul_assoc, Int.mul_comm 2 w, ← Int.mul_assoc]; omega
      have e1 : c / 2 = m * w + w / 2 := by omega
      have e2 : (c + 1) / 2 = m * w + (w + 1) / 2 := by omega
      unfold gB
      rw [e1, e2, key m (w / 2) (by omega) (by omega), key m ((w + 1) / 2) (by omega) (by omega)]
      exact ⟨.inr (.inl rfl), .inr (.inr rfl)⟩
  mono := fun {a b} ha hb h0 hlt => by
    unfold gB at ha hb
    unfold gR
    have a0 := Int.emod_nonneg a (show w ≠ 0 by omega)
    have a1 := Int.emod_lt_of_pos a (show 0 < w by omega)
    have a2 := Int.emod_add_mul_ediv a w
    have b0 := Int.emod_nonneg b (show w ≠ 0 by omega)
    have b1 := Int.emod_lt_of_pos b (show 0 < w by omega)
    have b2 := Int.emod_add_mul_ediv b w
    have qa : 0 ≤ a / w := Int.ediv_nonneg h0 (by omega)
    have qb : 0 ≤ b / w := Int.ediv_nonneg (by omega) (by omega)
    have le : a / w ≤ b / w := Int.ediv_le_ediv (by omega) (by omega)
    by_cases h : a / w = b / w
    · rw [h] at a2 ⊢
      have hm : a % w < b % w := by omega
      split <;> split <;> (try split) <;> (try split) <;> omega
    · have : (a / w).toNat + 1 ≤ (b / w).toNat := by omega
      split <;> split <;> (try split) <;> (try split) <;> omega
theorem rk_gridW {w n : Int} (hw : 2 ≤ w) (hn : 0 ≤ n) : (gridW w hw).rk (n * w) = 3 * n.toNat := by
  show gR w (n * w) = _
  unfold gR
  rw [Int.mul_emod_left, if_pos rfl, Int.mul_ediv_cancel _ (show w ≠ 0 by omega)]
  omega
theorem gB_mul {w n : Int} : gB w (n * w) := .inl (Int.mul_emod_left _ _)
/-- a row's big tie lies along the grid -/
theorem big_wk {w n : Int} (hw : 2 ≤ w) {r : Row} (O : RowOk n r) : Wk (gridW w hw) (n * w) (tieOf (blockRow w r)) := by
  have key : ∀ a b : Int, 0 ≤ a → a + b ≤ n → a * w + b * w ≤ n * w := fun a b _ h => by
    rw [← Int.add_mul]
    exact Int.mul_le_mul_of_nonneg_right h (by omega)
  have l1 : r.l * w ≥ 1 * w := Int.mul_le_mul_of_nonneg_right O.l1 (by omega)
  unfold tieOf blockRow
  have add : ∀ a b : Int, (gridW w hw).B (a * w + b * w) := fun a b => by
    rw [← Int.add_mul]
    exact gB_mul
  refine wk_tie (Int.mul_nonneg O.f0 (by omega)) (Int.mul_nonneg O.s0 (by omega)) (by show 1 ≤ r.l * w; omega) (key _ _ O.f0 O.fe) (key _ _ O.s0 O.se) gB_mul gB_mul (add _ _) (add _ _) (fun _ _ => ⟨r.s - r.f, by rw [Int.sub_mul]⟩) (fun _ _ => ⟨r.f + r.s + r.l, ?_⟩)
  show r.f * w + r.s * w + r.l * w = _
  rw [Int.add_mul, Int.add_mul]
theorem big_wk1 {w n : Int} (hw : 1 ≤ w) {r : Row} (O : RowOk n r) : Wk grid1 (n * w) (tieOf (blockRow w r)) := by
  have key : ∀ a b : Int, 0 ≤ a → a + b ≤ n → a * w + b * w ≤ n * w := fun a b _ h => by
    rw [← Int.add_mul]
    exact Int.mul_le_mul_of_nonneg_right h (by omega)
  have l1 : r.l * w ≥ 1 * w := Int.mul_le_mul_of_nonneg_right O.l1 (by omega)
  unfold tieOf blockRow
  exact wk_tie (Int.mul_nonneg O.f0 (by omega)) (Int.mul_nonneg O.s0 (by omega)) (by show 1 ≤ r.l * w; omega) (key _ _ O.f0 O.fe) (key _ _ O.s0 O.se) True.intro True.intro True.intro True.intro (fun _ _ => True.intro) (fun _ _ => True.intro)
/-- all rows: a grid of few borders along which their ties lie -/
theorem big_grid {w n : Int} (hw : 1 ≤ w) (n1 : 1 ≤ n) (n14 : n ≤ 14) : ∃ G : Grid, G.rk (n * w) ≤ 42 ∧ G.B (n * w) ∧ ∀ r, RowOk n r → Wk G (n * w) (tieOf (blockRow w r)) := by
  by_cases h : 4 ≤ w
  · refine ⟨gridW w (by omega), ?_, gB_mul, fun r O => big_wk (by omega) O⟩
    rw [rk_gridW _ (by omega)]
    omega
  · refine ⟨grid1, ?_, True.intro, fun r O => big_wk1 hw O⟩
    show (n * w).toNat ≤ 42
    have h3 : w = 1 ∨ w = 2 ∨ w = 3 := by omega
    rcases h3 with e | e | e <;> subst e <;> omega
/-- the ladder begins -/
theorem start_ok {G : Grid} {size : Int} {T0 : List Ti} (h0 : 0 ≤ size) (hB : G.B size) (hW : ∀ t ∈ T0, Wk G size t) (hx : ∃ x, Sat T0 x) : RInv G size T0.length (2 * T0.length) T0 (T0.flatMap evened) [] size := by
  have key : ∀ ls : List Ti, (∀ t ∈ ls, Wk G size t) → (∃ x, Sat ls x) → All G size (ls.flatMap evened) ∧ (∀ x, Sat (ls.flatMap evened) x ↔ Sat ls x) ∧ np (ls.flatMap evened) ≤ ls.length ∧ (ls.flatMap evened).length ≤ 2 * ls.length := fun ls => by
    induction ls with
    | nil => exact fun _ _ => ⟨(fun _ h => nomatch h), fun _ => Iff.rfl, Nat.le_refl _, Nat.le_refl _⟩
    | cons t ls ih =>
      intro h1 ⟨x0, hx0⟩
      obtain ⟨y1, y2⟩ := sat_cons.mp hx0
      obtain ⟨i1, i2, i3, i4⟩ := ih (fun u hu => h1 u (List.mem_cons_of_mem _ hu)) ⟨x0, y2⟩
      have r := even_ok (h1 t List.mem_cons_self) ⟨x0, y1⟩
      rw [List.flatMap_cons]
      refine ⟨fun u hu => ?_, fun x => ?_, ?_, ?_⟩
      · rcases List.mem_append.mp hu with q | q
        · exact r.gd u q
        · exact i1 u q
      · rw [sat_append, sat_cons, r.sat, i2]
      · have := r.one
        rw [np_append, List.length_cons]
        unfold np at this ⊢ i3
        omega
      · have := r.two
        rw [List.length_append, List.length_cons]
        omega
  obtain ⟨k1, k2, k3, k4⟩ := key T0 hW hx
  refine ⟨k1, h0, Int.le_refl _, hB, fun x => ?_, (fun _ h => nomatch h), List.Pairwise.nil, hx, k3, by simpa using k4, by simp⟩
  rw [k2]
  unfold CutsHold
  simp
/-- how often a tie is gone along, at most: the borders between -/
theorem rounds_le {G : Grid} {c : Ti} (hc : Ev c) (ac : Al G c) (hb : c.b = false) {q lo m : Int} (h0 : 0 ≤ lo) (bl : G.B lo) (h1 : lo ≤ q) (h2 : q < m) (bm : G.B m) (hl : c.l = 1 → q - lo < c.sh) : c.rounds q lo ≤ G.rk m + 1 := by
  obtain ⟨r1, r2, r3⟩ := rounds_pos hc hb h1
  generalize c.rounds q lo = k at *
  have hlt := hc.lt
  have hs : 0 < c.sh := by unfold Ti.sh; omega
  have hl1 := hc.l1
  by_cases h : c.l = 1
  · have := hl h
    by_cases hk : k ≤ 1
    · omega
    · exfalso
      have : 1 * c.sh ≤ (k - 1) * c.sh := Int.mul_le_mul_of_nonneg_right (by omega) (by omega)
      omega
  · have hd := ac.st (by omega) hb
    have go : ∀ n : Nat, (n : Int) ≤ k - 1 → G.B (lo + n * c.sh) ∧ n ≤ G.rk (lo + n * c.sh) := fun n => by
      induction n with
      | zero =>
        intro _
        refine ⟨?_, Nat.zero_le _⟩
        rw [show lo + ((0 : Nat) : Int) * c.sh = lo by simp]
        exact bl
      | succ n ih =>
        intro hn
        obtain ⟨i1, i2⟩ := ih (by omega)
        have e : lo + ((n + 1 : Nat) : Int) * c.sh = lo + n * c.sh + c.sh := by
          rw [Int.natCast_add, Int.add_mul]
          omega
        rw [e]
        have b := G.sh i1 hd
        have nn : 0 ≤ (n : Int) * c.sh := Int.mul_nonneg (by omega) (by omega)
        have := G.mono i1 b (by omega) (by omega)
        exact ⟨b, by omega⟩
    obtain ⟨n, hn⟩ : ∃ n : Nat, k = n + 1 := ⟨(k - 1).toNat, by omega⟩
    subst hn
    obtain ⟨g1, g2⟩ := go n (by omega)
    have e3 : ((n : Int) + 1 - 1) * c.sh = n * c.sh := by congr 1; omega
    rw [e3] at r2
    have := G.mono g1 bm (by have : 0 ≤ (n : Int) * c.sh := Int.mul_nonneg (by omega) (by omega); omega) (by omega)
    omega
end Lad

-- M15
set_option linter.all false
set_option maxRecDepth 10000
namespace Lad
structure Ar (f s l : Int) : Prop where
  f0 : 0 ≤ f
  s0 : 0 ≤ s
  l1 : 1 ≤ l
  fe : f + l ≤ 10 ^ 30
  se : s + l ≤ 10 ^ 30
theorem Ok.ar {t : Ti} (h : Ok t) : Ar t.f t.s t.l := ⟨h.f0, h.s0, h.l1, h.fe, h.se⟩
theorem Ar.ok {f s l a : Int} {d b : Bool} (h : Ar f s l) : Ok (tie f s l a d b) := ⟨h.f0, h.s0, h.l1, h.fe, h.se, fun q => by
  simp only [tie, Bool.and_eq_true, decide_eq_true_eq] at q
  exact q.2⟩
def JGood (t u : Ti) : Prop := t.intoLo u.f (u.f + u.l) < t.intoHi u.f (u.f + u.l)
theorem join_ar {t u : Ti} (ht : Ok t) (hu : Ok u) (hj : JGood t u) :
    Ar (t.intoLo u.f (u.f + u.l)) (min (u.par (t.par (t.intoLo u.f (u.f + u.l)))) (u.par (t.par (t.intoHi u.f (u.f + u.l) - 1)))) (t.intoHi u.f (u.f + u.l) - t.intoLo u.f (u.f + u.l)) := by
  obtain ⟨a1, a2, a3, a4, a5, _⟩ := ht
  obtain ⟨b1, b2, b3, b4, b5, _⟩ := hu
  unfold JGood Ti.intoLo Ti.intoHi Ti.sh Ti.tu at hj
  obtain ⟨tf, ts, tl, ta, td, tb⟩ := t
  obtain ⟨uf, us, ul, ua, ud, ub⟩ := u
  unfold Ti.intoLo Ti.intoHi Ti.par Ti.sh Ti.tu
  simp only at *
  cases tb <;> cases ub <;> simp only [if_true, if_false, Bool.false_eq_true] at * <;> (constructor <;> omega)
theorem join_ok {t u : Ti} (ht : Ok t) (hu : Ok u) (hj : JGood t u) : Ok (t.join u) := (join_ar ht hu hj).ok
theorem inv_ok {t : Ti} (h : Ok t) : Ok t.inv := (⟨h.s0, h.f0, h.l1, h.se, h.fe⟩ : Ar t.s t.f t.l).ok
theorem part_ar {t : Ti} (h : Ok t) {st n : Int} (h0 : 0 ≤ st) (hn : 1 ≤ n) (hl : st + n ≤ t.l) :
    Ar (t.f + st) (min (t.par (t.f + st)) (t.par (t.f + st + n - 1))) (t.f + st + n - (t.f + st)) := by
  obtain ⟨a1, a2, a3, a4, a5, _⟩ := h
  obtain ⟨tf, ts, tl, ta, td, tb⟩ := t
  unfold Ti.par Ti.sh Ti.tu
  simp only at *
  cases tb <;> simp only [if_true, if_false, Bool.false_eq_true] at * <;> (constructor <;> omega)
theorem part_ok {t : Ti} (h : Ok t) {st n : Int} (h0 : 0 ≤ st) (hn : 1 ≤ n) (hl : st + n ≤ t.l) : Ok (t.part st n) := (part_ar h h0 hn hl).ok
/-- many times, without a turn -/
structure TGood (t : Ti) (m : Int) : Prop where
  m1 : 1 ≤ m
  ms : m < 2 ^ 64
  b : m ≠ 1 → t.b = false ∧ 0 ≤ t.sh ∧ (m - 1) * t.sh < t.l
theorem times_ar {t : Ti} (h : Ok t) {m : Int} (g : TGood t m) (hm : m ≠ 1) : Ar t.f (t.f + m * t.sh) (t.l - (m - 1) * t.sh) := by
  obtain ⟨a1, a2, a3, a4, a5, _⟩ := h
  obtain ⟨g1, g2, g3⟩ := g
  obtain ⟨b1, b2, b3⟩ := g3 hm
  have e : m * t.sh = (m - 1) * t.sh + t.sh := by rw [Int.sub_mul]; omega
  have p : 0 ≤ (m - 1) * t.sh := Int.mul_nonneg (by omega) b2
  rw [e]
  revert b3 p
  generalize (m - 1) * t.sh = z
  intro b3 p
  unfold Ti.sh at *
  constructor <;> omega
theorem times_ok {t : Ti} (h : Ok t) {m : Int} (g : TGood t m) : Ok (t.times m) := by
  unfold Ti.times
  by_cases hm : m = 1
  · rw [if_pos hm]; exact h
  · rw [if_neg hm]; exact (times_ar h g hm).ok
end Lad

-- W1
set_option Elab.async false
set_option linter.all false
set_option maxRecDepth 100000
set_option maxHeartbeats 4000000
namespace TT
open PySem PySem.Spec PyProof.Rows L2
/-! ### attributes in general -/
def GetR (X : Cx) (f : Str) (R : V → Hp → VK → Prop) : Prop :=
  ∀ (pins : List (Addr × Obj)) (σ : L2.St) (H : Hp) (s : Shared) (x : V) (u : Value) (b : Bool) (Q : VK), Inv X pins σ H s → RelV x u → R x H Q → wpAny (model X.prog X.w) X.A (getAttr u f b) (EP X pins σ Q) X.xe s
def tAt (R : V → Hp → VK → Prop) (ta : TE) : TE := fun σ H Q => ta σ H fun x H1 => R x H1 Q
section
variable {X : Cx} {k : Nat} {C p g : Addr} {f : Str} {sp : Sp} {e : Expr} {pos : Pos} {ta : TE} {R : V → Hp → VK → Prop}
theorem pe_at (G : GetR X f R) (he : PE X e ta) (hab : attributeBase e f X.env (eval e X.env) = eval e X.env := by rfl) : PE X (.Attribute e f pos) (tAt R ta) :=
  ⟨fun pins s σ H Q I h => attr_of hab (thn (he.run pins s σ H _ I h) fun u s1 ⟨x, H1, I1, rx, q⟩ => G pins σ H1 s1 x u _ Q I1 rx q)⟩
theorem get_prop (c : Cls X.K C) (hp : PropOf X.K C f p g) (F : FnR X.prog X.w X.K X.mg X.base CX0 k g sp) (hr : Room (k + 1) X.A) :
    GetR X f (fun x H Q => ∃ a dx fs, x = .ref a ∧ H a = some (.ins C dx fs) ∧ sp [.ref a] H Q E0) := by
  intro pins σ H1 s1 x u b Q I1 rx ⟨a, dx, fs, ex, ea, q⟩
  subst ex
  cases (show u = Value.ref a from rx)
  obtain ⟨mA, O, _⟩ := ins_get I1.hok ea
  obtain ⟨od, J, _⟩ := O.look
  obtain ⟨rest, hrec⟩ := hp.rec_
  have hc : (PySem.W.clsIn X.K C).isSome = true := by
    obtain ⟨cd, hc, _⟩ := PySem.W.any_some c.hd
    rw [hc] <;> rfl
  have I2 := I1.tok (s1.toks + 1)
  refine PySem.W.get_bind I1.kIn J (PySem.W.plainGet_of (c.get f)).1 (PySem.W.findObj_data hc hp.at_ hp.get hp.tak) (PySem.W.plainGet_of (c.get f)).2
    (wpAny_call (PySem.W.prop_get (s := { s1 with toks := s1.toks + 1 }) I1.kIn hrec (codeAny_mono (F X.A.in1 X.stack _ H1 [.ref a] [.ref a] Q E0 hr.in1 I2.env0.in1 (.cons rfl .nil) q) fun r s' hq => ?_)))
  rcases r with er | fl
  · exact hq.elim
  · cases fl
    case ret u =>
      obtain ⟨v, H', I3, rv, q3⟩ := I2.after hq
      show wpAny _ _ (handedOut u) _ _ _
      rw [PySem.W.handedOut_of (handed_of rv)]
      exact wpAny_pure ⟨v, H', I3, rv, q3⟩
    all_goals exact hq.elim
theorem GetR.imp {R' : V → Hp → VK → Prop} (G : GetR X f R) (h : ∀ x H Q, R' x H Q → R x H Q) : GetR X f R' :=
  fun pins σ H s x u b Q I r q => G pins σ H s x u b Q I r (h x H Q q)
end
/-! ### a tie on the heap -/
abbrev cT (K : Fg) : Addr := gA "Tie" K
structure TieF (fs : List (Str × V)) (t : Lad.Ti) : Prop where
  f : fs.lookup ("own_first" : Str) = some (V.int t.f)
  s : fs.lookup ("own_second" : Str) = some (V.int t.s)
  l : fs.lookup ("own_length" : Str) = some (V.int t.l)
  a : fs.lookup ("own_amount" : Str) = some (V.int t.a)
  d : fs.lookup ("own_down" : Str) = some (V.bl t.d)
  b : fs.lookup ("own_backward" : Str) = some (V.bl t.b)
def tieFs (t : Lad.Ti) : List (Str × V) := [("own_first", V.int t.f), ("own_second", V.int t.s), ("own_length", V.int t.l), ("own_amount", V.int t.a), ("own_down", V.bl t.d), ("own_backward", V.bl t.b)]
theorem tieF (t : Lad.Ti) : TieF (tieFs t) t := ⟨rfl, rfl, rfl, rfl, rfl, rfl⟩
def TieAt (K : Fg) (H : Hp) (v : V) (t : Lad.Ti) : Prop := ∃ a dx, v = .ref a ∧ H a = some (.ins (cT K) dx (tieFs t))
theorem TieAt.mono {K : Fg} {H H' : Hp} {v : V} {t : Lad.Ti} (h : TieAt K H v t) (e : Same H H') : TieAt K H' v t := by
  obtain ⟨a, dx, ev, ha⟩ := h
  exact ⟨a, dx, ev, e _ _ ha⟩
def rTi (K : Fg) (g : Lad.Ti → V) : V → Hp → VK → Prop := fun x H Q => ∃ t, TieAt K H x t ∧ Q (g t) H
section
variable {X : Cx}
theorem get_own {f : Str} {g : Lad.Ti → V} (c : Env X.K X.mg) (n : NoAttr X.K (cT X.K) f) (hf : ∀ {fs t}, TieF fs t → fs.lookup f = some (g t)) : GetR X f (rTi X.K g) := by
  intro pins σ H s x u b Q I rx ⟨t, ⟨a, dx, ex, ea⟩, q⟩
  subst ex
  cases (show u = Value.ref a from rx)
  exact getattr_ok I ea (c_Tie c) n (hf (tieF t)) fun u' s2 I2 ru => ⟨_, H, I2, ru, q⟩
theorem at_first (c : Env X.K X.mg) : GetR X "own_first" (rTi X.K fun t => V.int t.f) := get_own c (n_Tie_own_first c) fun h => h.f
theorem at_second (c : Env X.K X.mg) : GetR X "own_second" (rTi X.K fun t => V.int t.s) := get_own c (n_Tie_own_second c) fun h => h.s
theorem at_length (c : Env X.K X.mg) : GetR X "own_length" (rTi X.K fun t => V.int t.l) := get_own c (n_Tie_own_length c) fun h => h.l
theorem at_amount (c : Env X.K X.mg) : GetR X "own_amount" (rTi X.K fun t => V.int t.a) := get_own c (n_Tie_own_amount c) fun h => h.a
theorem at_down (c : Env X.K X.mg) : GetR X "own_down" (rTi X.K fun t => V.bl t.d) := get_own c (n_Tie_own_down c) fun h => h.d
theorem at_backward (c : Env X.K X.mg) : GetR X "own_backward" (rTi X.K fun t => V.bl t.b) := get_own c (n_Tie_own_backward c) fun h => h.b
end
/-! ### the getters -/
section
variable {P : Program} {w : World} {K : Fg} {mg : Str → Option Value} {base : Heap}
def spTi (K : Fg) (g : Lad.Ti → V) : Sp := fun vs H Q _ => ∃ v t, vs = [v] ∧ TieAt K H v t ∧ Q (g t) H
theorem len1 {g : Lad.Ti → V} : ∀ vs H Q E, spTi K g vs H Q E → vs.length = (["self"] : List Str).length := by
  intro vs H Q E h
  obtain ⟨v, t, rfl, _⟩ := h
  rfl
theorem gs_first : FnScope ["self"] ["self"] (defScope s_Tie_first) := ⟨rfl, rfl, rfl, by decide +kernel, rfl, by decide +kernel, by decide +kernel⟩
theorem gs_second : FnScope ["self"] ["self"] (defScope s_Tie_second) := ⟨rfl, rfl, rfl, by decide +kernel, rfl, by decide +kernel, by decide +kernel⟩
theorem gs_length : FnScope ["self"] ["self"] (defScope s_Tie_length) := ⟨rfl, rfl, rfl, by decide +kernel, rfl, by decide +kernel, by decide +kernel⟩
theorem gs_amount : FnScope ["self"] ["self"] (defScope s_Tie_amount) := ⟨rfl, rfl, rfl, by decide +kernel, rfl, by decide +kernel, by decide +kernel⟩
theorem gs_down : FnScope ["self"] ["self"] (defScope s_Tie_down) := ⟨rfl, rfl, rfl, by decide +kernel, rfl, by decide +kernel, by decide +kernel⟩
theorem gs_backward : FnScope ["self"] ["self"] (defScope s_Tie_backward) := ⟨rfl, rfl, rfl, by decide +kernel, rfl, by decide +kernel, by decide +kernel⟩
theorem gs_shift : FnScope ["self"] ["self"] (defScope s_Tie_shift) := ⟨rfl, rfl, rfl, by decide +kernel, rfl, by decide +kernel, by decide +kernel⟩
theorem gs_turn : FnScope ["self"] ["self"] (defScope s_Tie_turn) := ⟨rfl, rfl, rfl, by decide +kernel, rfl, by decide +kernel, by decide +kernel⟩
theorem ok_Tie_first (c : Env K mg) : Pm P w K mg base 1 (d_Tie_first.at_ K) (spTi K fun t => V.int t.f) := by
  obtain ⟨fd, F⟩ := fd_Tie_first c
  refine .mk0 (F.ok gs_first len1 fun cdv A outer s H vs Q E hr h => ?_) (FunD.bindsN F fun _ _ _ _ _ _ us hl => match us, hl with | [_], _ => rfl) F.kp
  obtain ⟨v, t, rfl, ht, hQ⟩ := h
  exact ⟨_, pss_one (ps_ret (pe_at (at_first c) (pv 0))), _, rfl, t, ht, hQ⟩
theorem ok_Tie_second (c : Env K mg) : Pm P w K mg base 1 (d_Tie_second.at_ K) (spTi K fun t => V.int t.s) := by
  obtain ⟨fd, F⟩ := fd_Tie_second c
  refine .mk0 (F.ok gs_second len1 fun cdv A outer s H vs Q E hr h => ?_) (FunD.bindsN F fun _ _ _ _ _ _ us hl => match us, hl with | [_], _ => rfl) F.kp
  obtain ⟨v, t, rfl, ht, hQ⟩ := h
  exact ⟨_, pss_one (ps_ret (pe_at (at_second c) (pv 0))), _, rfl, t, ht, hQ⟩
theorem ok_Tie_length (c : Env K mg) : Pm P w K mg base 1 (d_Tie_length.at_ K) (spTi K fun t => V.int t.l) := by
  obtain ⟨fd, F⟩ := fd_Tie_length c
  refine .mk0 (F.ok gs_length len1 fun cdv A outer s H vs Q E hr h => ?_) (FunD.bindsN F fun _ _ _ _ _ _ us hl => match us, hl with | [_], _ => rfl) F.kp
  obtain ⟨v, t, rfl, ht, hQ⟩ := h
  exact ⟨_, pss_one (ps_ret (pe_at (at_length c) (pv 0))), _, rfl, t, ht, hQ⟩
theorem ok_Tie_amount (c : Env K mg) : Pm P w K mg base 1 (d_Tie_amount.at_ K) (spTi K fun t => V.int t.a) := by
  obtain ⟨fd, F⟩ := fd_Tie_amount c
  refine .mk0 (F.ok gs_amount len1 fun cdv A outer s H vs Q E hr h => ?_) (FunD.bindsN F fun _ _ _ _ _ _ us hl => match us, hl with | [_], _ => rfl) F.kp
  obtain ⟨v, t, rfl, ht, hQ⟩ := h
  exact ⟨_, pss_one (ps_ret (pe_at (at_amount c) (pv 0))), _, rfl, t, ht, hQ⟩
theorem ok_Tie_down (c : Env K mg) : Pm P w K mg base 1 (d_Tie_down.at_ K) (spTi K fun t => V.bl t.d) := by
  obtain ⟨fd, F⟩ := fd_Tie_down c
  refine .mk0 (F.ok gs_down len1 fun cdv A outer s H vs Q E hr h => ?_) (FunD.bindsN F fun _ _ _ _ _ _ us hl => match us, hl with | [_], _ => rfl) F.kp
  obtain ⟨v, t, rfl, ht, hQ⟩ := h
  exact ⟨_, pss_one (ps_ret (pe_at (at_down c) (pv 0))), _, rfl, t, ht, hQ⟩
theorem ok_Tie_backward (c : Env K mg) : Pm P w K mg base 1 (d_Tie_backward.at_ K) (spTi K fun t => V.bl t.b) := by
  obtain ⟨fd, F⟩ := fd_Tie_backward c
  refine .mk0 (F.ok gs_backward len1 fun cdv A outer s H vs Q E hr h => ?_) (FunD.bindsN F fun _ _ _ _ _ _ us hl => match us, hl with | [_], _ => rfl) F.kp
  obtain ⟨v, t, rfl, ht, hQ⟩ := h
  exact ⟨_, pss_one (ps_ret (pe_at (at_backward c) (pv 0))), _, rfl, t, ht, hQ⟩
theorem ok_Tie_shift (c : Env K mg) : Pm P w K mg base 1 (d_Tie_shift.at_ K) (spTi K fun t => V.int t.sh) := by
  obtain ⟨fd, F⟩ := fd_Tie_shift c
  refine .mk0 (F.ok gs_shift len1 fun cdv A outer s H vs Q E hr h => ?_) (FunD.bindsN F fun _ _ _ _ _ _ us hl => match us, hl with | [_], _ => rfl) F.kp
  obtain ⟨v, t, rfl, ht, hQ⟩ := h
  exact ⟨_, pss_one (ps_ret (pe_op op_sub (pe_at (at_second c) (pv 0)) (pe_at (at_first c) (pv 0)))), _, rfl, t, ht, _, rfl, t, ht, _, _, rfl, rfl, hQ⟩
theorem ok_Tie_turn (c : Env K mg) : Pm P w K mg base 1 (d_Tie_turn.at_ K) (spTi K fun t => V.int t.tu) := by
  obtain ⟨fd, F⟩ := fd_Tie_turn c
  refine .mk0 (F.ok gs_turn len1 fun cdv A outer s H vs Q E hr h => ?_) (FunD.bindsN F fun _ _ _ _ _ _ us hl => match us, hl with | [_], _ => rfl) F.kp
  obtain ⟨v, t, rfl, ht, hQ⟩ := h
  exact ⟨_, pss_one (ps_ret (pe_op op_sub (pe_op op_add (pe_op op_add (pe_at (at_first c) (pv 0)) (pe_at (at_second c) (pv 0))) (pe_at (at_length c) (pv 0))) pe_int)), _, rfl, t, ht, _, rfl, t, ht, _, _, rfl, rfl, _, rfl, t, ht, _, _, rfl, rfl, _, _, rfl, rfl, hQ⟩
end
/-! ### the properties read -/
section
variable {X : Cx}
theorem get_first (c : Env X.K X.mg) (hr : Room 2 X.A) : GetR X "first" (rTi X.K fun t => V.int t.f) :=
  (get_prop (c_Tie c) (p_Tie_first c) (ok_Tie_first c).run hr).imp fun x H Q h => by
    obtain ⟨t, ⟨a, dx, e, ha⟩, q⟩ := h
    exact ⟨a, dx, _, e, ha, _, t, rfl, ⟨a, dx, rfl, ha⟩, q⟩
theorem get_second (c : Env X.K X.mg) (hr : Room 2 X.A) : GetR X "second" (rTi X.K fun t => V.int t.s) :=
  (get_prop (c_Tie c) (p_Tie_second c) (ok_Tie_second c).run hr).imp fun x H Q h => by
    obtain ⟨t, ⟨a, dx, e, ha⟩, q⟩ := h
    exact ⟨a, dx, _, e, ha, _, t, rfl, ⟨a, dx, rfl, ha⟩, q⟩
theorem get_length (c : Env X.K X.mg) (hr : Room 2 X.A) : GetR X "length" (rTi X.K fun t => V.int t.l) :=
  (get_prop (c_Tie c) (p_Tie_length c) (ok_Tie_length c).run hr).imp fun x H Q h => by
    obtain ⟨t, ⟨a, dx, e, ha⟩, q⟩ := h
    exact ⟨a, dx, _, e, ha, _, t, rfl, ⟨a, dx, rfl, ha⟩, q⟩
theorem get_amount (c : Env X.K X.mg) (hr : Room 2 X.A) : GetR X "amount" (rTi X.K fun t => V.int t.a) :=
  (get_prop (c_Tie c) (p_Tie_amount c) (ok_Tie_amount c).run hr).imp fun x H Q h => by
    obtain ⟨t, ⟨a, dx, e, ha⟩, q⟩ := h
    exact ⟨a, dx, _, e, ha, _, t, rfl, ⟨a, dx, rfl, ha⟩, q⟩
theorem get_down (c : Env X.K X.mg) (hr : Room 2 X.A) : GetR X "down" (rTi X.K fun t => V.bl t.d) :=
  (get_prop (c_Tie c) (p_Tie_down c) (ok_Tie_down c).run hr).imp fun x H Q h => by
    obtain ⟨t, ⟨a, dx, e, ha⟩, q⟩ := h
    exact ⟨a, dx, _, e, ha, _, t, rfl, ⟨a, dx, rfl, ha⟩, q⟩
theorem get_backward (c : Env X.K X.mg) (hr : Room 2 X.A) : GetR X "backward" (rTi X.K fun t => V.bl t.b) :=
  (get_prop (c_Tie c) (p_Tie_backward c) (ok_Tie_backward c).run hr).imp fun x H Q h => by
    obtain ⟨t, ⟨a, dx, e, ha⟩, q⟩ := h
    exact ⟨a, dx, _, e, ha, _, t, rfl, ⟨a, dx, rfl, ha⟩, q⟩
theorem get_shift (c : Env X.K X.mg) (hr : Room 2 X.A) : GetR X "shift" (rTi X.K fun t => V.int t.sh) :=
  (get_prop (c_Tie c) (p_Tie_shift c) (ok_Tie_shift c).run hr).imp fun x H Q h => by
    obtain ⟨t, ⟨a, dx, e, ha⟩, q⟩ := h
    exact ⟨a, dx, _, e, ha, _, t, rfl, ⟨a, dx, rfl, ha⟩, q⟩
theorem get_turn (c : Env X.K X.mg) (hr : Room 2 X.A) : GetR X "turn" (rTi X.K fun t => V.int t.tu) :=
  (get_prop (c_Tie c) (p_Tie_turn c) (ok_Tie_turn c).run hr).imp fun x H Q h => by
    obtain ⟨t, ⟨a, dx, e, ha⟩, q⟩ := h
    exact ⟨a, dx, _, e, ha, _, t, rfl, ⟨a, dx, rfl, ha⟩, q⟩
end
end TT

-- W2
set_option Elab.async false
set_option linter.all false
set_option maxRecDepth 100000
set_option maxHeartbeats 4000000
namespace TT
open PySem PySem.Spec PyProof.Rows L2
section
variable {X : Cx}
theorem is_of {r : List V → Hp → VK → Prop} (h : ∀ xs H Q, r xs H Q → rIsi X.K xs H Q) : CallR X (.builtin "isinstance") r :=
  fun pins s σ H xs us Q I rv q => call_isi pins s σ H xs us Q I rv (h xs H Q q)
theorem is_int (T : String) (b : Bool) (hb : kitB "int" T = some b) : CallR X (.builtin "isinstance") (fun xs H Q => ∃ i : Int, xs = [V.int i, V.ty T] ∧ Q (V.bl b) H) :=
  is_of fun xs H Q ⟨i, e, q⟩ => ⟨_, _, _, _, b, e, .ty T, .base (.int i), kit_ty hb, q⟩
theorem is_bl (T : String) (b : Bool) (hb : kitB "bool" T = some b) : CallR X (.builtin "isinstance") (fun xs H Q => ∃ i : Bool, xs = [V.bl i, V.ty T] ∧ Q (V.bl b) H) :=
  is_of fun xs H Q ⟨i, e, q⟩ => ⟨_, _, _, _, b, e, .ty T, .base (.bl i), kit_ty hb, q⟩
theorem is_str (T : String) (b : Bool) (hb : kitB "str" T = some b) : CallR X (.builtin "isinstance") (fun xs H Q => ∃ i : Str, xs = [V.str i, V.ty T] ∧ Q (V.bl b) H) :=
  is_of fun xs H Q ⟨i, e, q⟩ => ⟨_, _, _, _, b, e, .ty T, .base (.str i), kit_ty hb, q⟩
theorem is_tie (c : Env X.K X.mg) : CallR X (.builtin "isinstance") (fun xs H Q => ∃ v t, xs = [v, V.ref (cT X.K)] ∧ TieAt X.K H v t ∧ Q (V.bl true) H) := by
  refine is_of fun xs H Q ⟨v, t, e, ⟨a, dx, ev, ea⟩, q⟩ => ?_
  subst ev
  obtain ⟨h1, h2, h3, h4, h5⟩ := ins_ok (ins_Tie c)
  exact ⟨_, _, _, _, true, e, .own _, .base (.ins ea (c_Tie c) h1 h2 h3 h4), h5, q⟩
end
section
variable {P : Program} {w : World} {K : Fg} {mg : Str → Option Value} {base : Heap}
/-! ### is_integer -/
def geV (v : Int) : V → Bool
  | .int i => decide (i ≤ v)
  | _ => true
def leV (v : Int) : V → Bool
  | .int i => decide (v ≤ i)
  | _ => true
def isIV (v : V) : Prop := v = .non ∨ ∃ i, v = .int i
abbrev n_is_integer : List Str := ["value", "least", "most"]
abbrev pr_is_integer : List Str := ["value", "least", "most"]
theorem sc_is_integer : FnScope n_is_integer pr_is_integer (defScope s_is_integer) := ⟨rfl, rfl, rfl, by decide +kernel, rfl, by decide +kernel, by decide +kernel⟩

def spInt0 : Sp := fun vs H Q _ => ∃ (v : Int) (lo hi : V), vs = [V.int v, lo, hi] ∧ isIV lo ∧ isIV hi ∧ Q (V.bl (geV v lo && leV v hi)) H
theorem fn_is_integer (c : Env K mg) {fd : FuncData} (F : FunD K d_is_integer.name d_is_integer.qual d_is_integer.params d_is_integer.body d_is_integer.scope (d_is_integer.dv K) (d_is_integer.kw K) (d_is_integer.at_ K) fd) :
    FnOk P w K mg base CX0 1 (d_is_integer.at_ K) fd pr_is_integer spInt0 := by
  refine F.ok sc_is_integer (by intro vs H Q E h; obtain ⟨_, _, _, rfl, _⟩ := h; rfl) fun cdv A outer s H vs Q E hr h => ?_
  obtain ⟨v, lo, hi, rfl, hl, hh, hQ⟩ := h
  refine ⟨_, (PSs.nox (pss_cons (ps_if (PW.pt (pw_or (pt_not (pt_val (pe_callB (is_int "int" true (by decide +kernel)) (by rfl) (f_isinstance c) (by decide +kernel) (pa_cons (pv 0) (pa_cons (pe_bltn (v := V.ty "int") (u := Value.type "int") (by rfl) (f_int c) (by decide +kernel) rfl) pa_nil))))) (pw_or1 (pt_val (pe_callB (is_int "bool" false (by decide +kernel)) (by rfl) (f_isinstance c) (by decide +kernel) (pa_cons (pv 0) (pa_cons (pe_bltn (v := V.ty "bool") (u := Value.type "bool") (by rfl) (f_bool c) (by decide +kernel) rfl) pa_nil))))))) (pss_one (ps_ret pe_bl)) pss_nil)
    (pss_one (ps_ret (pe_and (pe_or (pe_cmpR op_isN (pv 1) pe_non (nomark _)) (pe_one (pe_cmpR op_ge (pv 0) (pv 1) (nomark _)))) (pe_one (pe_or (pe_cmpR op_isN (pv 2) pe_non (nomark _)) (pe_one (pe_cmpR op_le (pv 0) (pv 2) (nomark _)))))))))), ?_⟩
  refine ⟨_, rfl, _, rfl, _, rfl, iteF ⟨_, rfl, _, rfl, _, rfl, iteF ?_⟩⟩
  rcases hl with rfl | ⟨i, rfl⟩
  · refine ⟨_, rfl, rfl, _, rfl, iteT ⟨_, rfl, iteT ?_⟩⟩
    rcases hh with rfl | ⟨j, rfl⟩
    · exact ⟨_, rfl, rfl, _, rfl, iteT hQ⟩
    · exact ⟨_, rfl, rfl, _, rfl, iteF ⟨_, rfl, _, rfl, _, _, rfl, rfl, hQ⟩⟩
  · refine ⟨_, rfl, rfl, _, rfl, iteF ⟨_, rfl, _, rfl, _, _, rfl, rfl, _, rfl, ?_⟩⟩
    by_cases hc : i ≤ v
    · rw [if_pos (decide_eq_true hc)]
      have e : geV v (V.int i) = true := decide_eq_true hc
      rw [e, Bool.true_and] at hQ
      rcases hh with rfl | ⟨j, rfl⟩
      · exact ⟨_, rfl, rfl, _, rfl, iteT hQ⟩
      · exact ⟨_, rfl, rfl, _, rfl, iteF ⟨_, rfl, _, rfl, _, _, rfl, rfl, hQ⟩⟩
    · have e : decide (i ≤ v) = false := decide_eq_false hc
      have e2 : geV v (V.int i) = false := e
      rw [e2, Bool.false_and] at hQ
      rw [e]
      exact iteF hQ
theorem ok_is_integer1 (c : Env K mg) : Pm P w K mg base 1 (d_is_integer.at_ K) (fun vs H Q _ => ∃ v : Int, vs = [V.int v] ∧ Q (V.bl true) H) := by
  obtain ⟨fd, F⟩ := fd_is_integer c
  obtain ⟨ds, hd, hb⟩ := FunD.binds1 F (ps := pr_is_integer) 1 0 (List.cons_ne_nil _ _) rfl fun T kV doc pm an cdv ct us its hl hi => match us, hl, its, hi with | [_], _, [_, _], _ => ⟨_, rfl, rfl⟩
  refine ⟨(Pm.mkD (fn_is_integer c F) hb hd F.kp).run.imp fun vs H Q E h => ?_, F.kp⟩
  obtain ⟨v, rfl, hQ⟩ := h
  exact ⟨v, .non, .non, rfl, .inl rfl, .inl rfl, hQ⟩
theorem ok_is_integer2 (c : Env K mg) : Pm P w K mg base 1 (d_is_integer.at_ K) (fun vs H Q _ => ∃ v lo : Int, vs = [V.int v, V.int lo] ∧ Q (V.bl (decide (lo ≤ v))) H) := by
  obtain ⟨fd, F⟩ := fd_is_integer c
  obtain ⟨ds, hd, hb⟩ := FunD.binds1 F (ps := pr_is_integer) 2 1 (List.cons_ne_nil _ _) rfl fun T kV doc pm an cdv ct us its hl hi => match us, hl, its, hi with | [_, _], _, [_, _], _ => ⟨_, rfl, rfl⟩
  refine ⟨(Pm.mkD (fn_is_integer c F) hb hd F.kp).run.imp fun vs H Q E h => ?_, F.kp⟩
  obtain ⟨v, lo, rfl, hQ⟩ := h
  exact ⟨v, .int lo, .non, rfl, .inr ⟨_, rfl⟩, .inl rfl, by simpa [geV, leV] using hQ⟩
theorem ok_is_integer3 (c : Env K mg) : Pm P w K mg base 1 (d_is_integer.at_ K) (fun vs H Q _ => ∃ v lo hi : Int, vs = [V.int v, V.int lo, V.int hi] ∧ Q (V.bl (decide (lo ≤ v) && decide (v ≤ hi))) H) := by
  obtain ⟨fd, F⟩ := fd_is_integer c
  obtain ⟨ds, hd, hb⟩ := FunD.binds1 F (ps := pr_is_integer) 3 2 (List.cons_ne_nil _ _) rfl fun T kV doc pm an cdv ct us its hl hi => match us, hl, its, hi with | [_, _, _], _, [_, _], _ => ⟨_, rfl, rfl⟩
  refine ⟨(Pm.mkD (fn_is_integer c F) hb hd F.kp).run.imp fun vs H Q E h => ?_, F.kp⟩
  obtain ⟨v, lo, hi, rfl, hQ⟩ := h
  exact ⟨v, .int lo, .int hi, rfl, .inr ⟨_, rfl⟩, .inr ⟨_, rfl⟩, by simpa [geV, leV] using hQ⟩
end
end TT

-- W3
set_option Elab.async false
set_option linter.all false
set_option maxRecDepth 100000
set_option maxHeartbeats 4000000
namespace TT
open PySem PySem.Spec PyProof.Rows L2
section
variable {P : Program} {w : World} {K : Fg} {mg : Str → Option Value} {base : Heap}
abbrev OkA (f s l : Int) : Prop := Lad.Ar f s l
abbrev n_Tie_init : List Str := ["self", "first", "second", "length", "amount", "down", "backward", "place", "way"]
abbrev pr_Tie_init : List Str := ["self", "first", "second", "length", "amount", "down", "backward"]
theorem sc_Tie_init : FnScope n_Tie_init pr_Tie_init (defScope s_Tie_init) := ⟨rfl, rfl, rfl, by decide +kernel, rfl, by decide +kernel, by decide +kernel⟩

def spInit (K : Fg) : Sp := fun vs H Q _ => ∃ (x dx : Addr) (f s l a : Int) (d b : Bool), vs = [V.ref x, V.int f, V.int s, V.int l, V.int a, V.bl d, V.bl b] ∧ OkA f s l ∧ H x = some (.ins (cT K) dx []) ∧
  ∀ H', (∀ q o, H q = some o → q ≠ x → H' q = some o) → H' x = some (.ins (cT K) dx (tieFs (Lad.tie f s l a d b))) → Q .non H'
theorem len_init {K : Fg} : ∀ vs H Q E, spInit K vs H Q E → vs.length = pr_Tie_init.length := by
  intro vs H Q E h
  obtain ⟨_, _, _, _, _, _, _, _, rfl, _⟩ := h
  rfl
theorem fn_Tie_init (c : Env K mg) {fd : FuncData} (F : FunD K d_Tie_init.name d_Tie_init.qual d_Tie_init.params d_Tie_init.body d_Tie_init.scope (d_Tie_init.dv K) (d_Tie_init.kw K) (d_Tie_init.at_ K) fd) :
    FnOk P w K mg base CX0 2 (d_Tie_init.at_ K) fd pr_Tie_init (spInit K) := by
  refine F.ok sc_Tie_init len_init fun cdv A outer s0 H vs Q E hr h => ?_
  obtain ⟨x, dx, f, s, l, a, d, b, rfl, ok, hx, hQ⟩ := h
  refine ⟨_, (PSs.nox (pss_cons (ps_for PassesOwn.never rfl (pi_tup (pe_tup (pa_cons (pv 1) (pa_cons (pv 2) pa_nil)))) (pg_name (i := 7) sc_Tie_init.nd rfl (Or.inl rfl))
    (pss_one (ps_if (pt_not (pt_val (pe_callF (ok_is_integer2 c) (hr.mono (by decide)) rfl (g_is_integer c) (pa_cons (pv 7) (pa_cons pe_int pa_nil))))) (pss_one ps_never) pss_nil)))
    (pss_cons (ps_if (pt_not (pt_val (pe_callF (ok_is_integer3 c) (hr.mono (by decide)) rfl (g_is_integer c) (pa_cons (pv 3) (pa_cons pe_int (pa_cons (pe_op op_sub (pe_glob (v := V.int 1000000000000000000000000000000) rfl (i_END c).choose_spec ⟨_, rfl⟩) (pe_callB (call_max2 rfl) (by rfl) (f_max c) (by decide +kernel) (pa_cons (pv 1) (pa_cons (pv 2) pa_nil)))) pa_nil)))))) (pss_one ps_never) pss_nil)
    (pss_cons (ps_if (pt_not (pt_val (pe_callF (ok_is_integer1 c) (hr.mono (by decide)) rfl (g_is_integer c) (pa_cons (pv 4) pa_nil)))) (pss_one ps_never) pss_nil)
    (pss_cons (ps_for PassesOwn.never rfl (pi_tup (pe_tup (pa_cons (pv 5) (pa_cons (pv 6) pa_nil)))) (pg_name (i := 8) sc_Tie_init.nd rfl (Or.inl rfl))
    (pss_one (ps_if (pt_not (pt_val (pe_callB (is_bl "bool" true (by decide +kernel)) (by rfl) (f_isinstance c) (by decide +kernel) (pa_cons (pv 8) (pa_cons (pe_bltn (v := V.ty "bool") (u := Value.type "bool") (by rfl) (f_bool c) (by decide +kernel) rfl) pa_nil))))) (pss_one ps_never) pss_nil)))
    (pss_cons (ps_fld (pv 0) (pv 1) rfl)
    (pss_cons (ps_fld (pv 0) (pv 2) rfl)
    (pss_cons (ps_fld (pv 0) (pv 3) rfl)
    (pss_cons (ps_fld (pv 0) (pv 4) rfl)
    (pss_cons (ps_fld (pv 0) (pv 5) rfl)
    (pss_one (ps_fld (pv 0) (pe_and (pv 6) (pe_one (pe_cmpR op_gt (pv 3) pe_int (nomark _)))) rfl)))))))))))), ?_⟩
  refine ⟨_, rfl, _, rfl, by show 2 ≤ sizeLine; decide, fun p np => ?_⟩
  have px : x ≠ p := ne_of_none hx np
  have hx1 : (upd H p (.tup [V.int f, V.int s])) x = some (.ins (cT K) dx []) := by rw [upd_ne px]; exact hx
  have hp1 : (upd H p (.tup [V.int f, V.int s])) p = some (.tup [V.int f, V.int s]) := upd_same
  have s1 : Same H (upd H p (.tup [V.int f, V.int s])) := fun q o e => by rw [upd_ne (ne_of_none e np)]; exact e
  revert hx1 hp1 s1
  generalize upd H p (.tup [V.int f, V.int s]) = H1
  intro hx1 hp1 s1
  refine ⟨p, rfl, ⟨_, SqT.of hp1⟩, for_tup (xs := [V.int f, V.int s]) (fun i σ H => H = H1 ∧ ∃ z, σ = [some (V.ref x), some (V.int f), some (V.int s), some (V.int l), some (V.int a), some (V.bl d), some (V.bl b), z, none]) ⟨rfl, _, rfl⟩ (fun i σ H _ e => by rw [e.1]; exact .of hp1) (fun i y σ H hi e => ?_) (fun σ H e => ?_)⟩
  · obtain ⟨rfl, z, rfl⟩ := e
    have hy : ∃ n : Int, y = .int n ∧ 0 ≤ n := by
      match i, hi with
      | 0, hi => cases hi; exact ⟨f, rfl, ok.f0⟩
      | 1, hi => cases hi; exact ⟨s, rfl, ok.s0⟩
    obtain ⟨n, rfl, hn⟩ := hy
    refine ⟨_, rfl, n, 0, rfl, _, rfl, ?_⟩
    rw [decide_eq_true hn]
    exact iteF ⟨rfl, _, rfl⟩
  · obtain ⟨rfl, z, rfl⟩ := e
    refine ⟨_, rfl, _, rfl, _, rfl, _, _, rfl, _, _, rfl, rfl, _, _, _, rfl, _, rfl, ?_⟩
    have e1 : (decide (1 ≤ l) && decide (l ≤ 1000000000000000000000000000000 - (if s > f then s else f))) = true := by
      rw [Bool.and_eq_true]
      refine ⟨decide_eq_true ok.l1, decide_eq_true ?_⟩
      have := ok.fe
      have := ok.se
      split <;> omega
    rw [e1]
    refine iteF ⟨_, rfl, _, rfl, _, rfl, iteF ⟨_, rfl, _, rfl, by show 2 ≤ sizeLine; decide, fun p2 np2 => ?_⟩⟩
    have px2 : x ≠ p2 := ne_of_none hx1 np2
    have hx2 : (upd H p2 (.tup [V.bl d, V.bl b])) x = some (.ins (cT K) dx []) := by rw [upd_ne px2]; exact hx1
    have hp2 : (upd H p2 (.tup [V.bl d, V.bl b])) p2 = some (.tup [V.bl d, V.bl b]) := upd_same
    have s2 : Same H (upd H p2 (.tup [V.bl d, V.bl b])) := fun q o e => by rw [upd_ne (ne_of_none e np2)]; exact e
    revert hx2 hp2 s2
    generalize upd H p2 (.tup [V.bl d, V.bl b]) = H2
    intro hx2 hp2 s2
    refine ⟨p2, rfl, ⟨_, SqT.of hp2⟩, for_tup (xs := [V.bl d, V.bl b]) (fun i σ H => H = H2 ∧ ∃ z2, σ = [some (V.ref x), some (V.int f), some (V.int s), some (V.int l), some (V.int a), some (V.bl d), some (V.bl b), z, z2]) ⟨rfl, _, rfl⟩ (fun i σ H _ e => by rw [e.1]; exact .of hp2) (fun i y σ H hi e => ?_) (fun σ H e => ?_)⟩
    · obtain ⟨rfl, z2, rfl⟩ := e
      have hy : ∃ n : Bool, y = .bl n := by
        match i, hi with
        | 0, hi => cases hi; exact ⟨d, rfl⟩
        | 1, hi => cases hi; exact ⟨b, rfl⟩
      obtain ⟨n, rfl⟩ := hy
      exact ⟨_, rfl, n, rfl, _, rfl, iteF ⟨rfl, _, rfl⟩⟩
    · obtain ⟨rfl, z2, rfl⟩ := e
      refine ⟨_, rfl, _, rfl, _, _, _, _, rfl, hx2, c_Tie c, n_Tie_own_first c, (show (0 : Nat) < 1000 by decide), ?_⟩
      refine ⟨_, rfl, _, rfl, _, _, _, _, rfl, upd_same, c_Tie c, n_Tie_own_second c, (show (1 : Nat) < 1000 by decide), ?_⟩
      refine ⟨_, rfl, _, rfl, _, _, _, _, rfl, upd_same, c_Tie c, n_Tie_own_length c, (show (2 : Nat) < 1000 by decide), ?_⟩
      refine ⟨_, rfl, _, rfl, _, _, _, _, rfl, upd_same, c_Tie c, n_Tie_own_amount c, (show (3 : Nat) < 1000 by decide), ?_⟩
      refine ⟨_, rfl, _, rfl, _, _, _, _, rfl, upd_same, c_Tie c, n_Tie_own_down c, (show (4 : Nat) < 1000 by decide), ?_⟩
      have fin : ∀ b' : Bool, b' = (b && decide (1 < l)) → Q .non (upd (upd (upd (upd (upd (upd H x (.ins (cT K) dx (putF "own_first" (V.int f) []))) x (.ins (cT K) dx (putF "own_second" (V.int s) (putF "own_first" (V.int f) [])))) x
          (.ins (cT K) dx (putF "own_length" (V.int l) (putF "own_second" (V.int s) (putF "own_first" (V.int f) []))))) x (.ins (cT K) dx (putF "own_amount" (V.int a) (putF "own_length" (V.int l) (putF "own_second" (V.int s) (putF "own_first" (V.int f) [])))))) x
          (.ins (cT K) dx (putF "own_down" (V.bl d) (putF "own_amount" (V.int a) (putF "own_length" (V.int l) (putF "own_second" (V.int s) (putF "own_first" (V.int f) []))))))) x
          (.ins (cT K) dx (putF "own_backward" (V.bl b') (putF "own_down" (V.bl d) (putF "own_amount" (V.int a) (putF "own_length" (V.int l) (putF "own_second" (V.int s) (putF "own_first" (V.int f) [])))))))) := by
        rintro b' rfl
        refine hQ _ (fun q o e hq => ?_) upd_same
        rw [upd_ne hq, upd_ne hq, upd_ne hq, upd_ne hq, upd_ne hq, upd_ne hq]
        exact s2 _ _ (s1 _ _ e)
      refine ⟨_, rfl, _, rfl, ?_⟩
      cases b with
      | true => exact ⟨_, rfl, _, _, rfl, rfl, _, rfl, _, _, _, _, rfl, upd_same, c_Tie c, n_Tie_own_backward c, (show (5 : Nat) < 1000 by decide), fin _ (Bool.true_and _).symm⟩
      | false => exact ⟨_, rfl, _, _, _, _, rfl, upd_same, c_Tie c, n_Tie_own_backward c, (show (5 : Nat) < 1000 by decide), fin _ rfl⟩
end
/-! ### a new tie -/
structure NewT (K : Fg) (H : Hp) (Q : VK) (f s l a : Int) (d b : Bool) : Prop where
  ok : OkA f s l
  q : ∀ v H', Same H H' → TieAt K H' v (Lad.tie f s l a d b) → Q v H'
def tNewT (K : Fg) (t tk : TA) : TE := fun σ H Q => t σ H fun vs H1 => tk σ H1 fun zs H2 => ∃ f s l a d b, vs = [V.int f, V.int s, V.int l, V.int a] ∧ zs = [V.bl d, V.bl b] ∧ OkA f s l ∧ ∀ v H', Same H2 H' → TieAt K H' v (Lad.tie f s l a d b) → Q v H'
def tNewD (K : Fg) (t tk : TA) : TE := fun σ H Q => t σ H fun vs H1 => tk σ H1 fun zs H2 => ∃ f s l a d, vs = [V.int f, V.int s, V.int l, V.int a] ∧ zs = [V.bl d] ∧ OkA f s l ∧ ∀ v H', Same H2 H' → TieAt K H' v (Lad.tie f s l a d false) → Q v H'
end TT

-- W4
set_option Elab.async false
set_option linter.all false
set_option maxRecDepth 100000
set_option maxHeartbeats 4000000
namespace TT
open PySem PySem.Spec PyProof.Rows L2
/-! ### readings that grow -/
def mcE (t : TE) : TE := fun σ H Q => ∃ Q0 : VK, t σ H Q0 ∧ ∀ v H', Q0 v H' → Q v H'
def mcA (t : TA) : TA := fun σ H Q => ∃ Q0 : List V → Hp → Prop, t σ H Q0 ∧ ∀ v H', Q0 v H' → Q v H'
section
variable {X : Cx} {e : Expr} {es : List Expr} {kws : List Keyword} {t : TE} {ta tk : TA}
theorem PEmc (h : PE X e t) : PE X e (mcE t) := ⟨fun pins s σ H Q I ⟨Q0, h0, m⟩ => thn (h.run pins s σ H Q0 I h0) fun u s1 ⟨v, H1, I1, r, q⟩ => ⟨v, H1, I1, r, m _ _ q⟩⟩
theorem PAmc (h : PA X es ta) : PA X es (mcA ta) := ⟨fun pos pins s σ H Q I ⟨Q0, h0, m⟩ => thn (h.run pos pins s σ H Q0 I h0) fun u s1 ⟨v, H1, I1, r, q⟩ => ⟨v, H1, I1, r, m _ _ q⟩⟩
theorem PKmc (h : PK X kws tk) : PK X kws (mcA tk) := ⟨fun pos pins s σ H Q I ⟨Q0, h0, m⟩ => thn (h.run pos pins s σ H Q0 I h0) fun u s1 ⟨v, H1, I1, r, q⟩ => ⟨v, H1, I1, r, m _ _ q⟩⟩
theorem PEwk {t' : TE} (h : PE X e t) (k : ∀ σ H Q, t' σ H Q → t σ H Q) : PE X e t' := ⟨fun pins s σ H Q I q => h.run pins s σ H Q I (k σ H Q q)⟩
end
section
variable {P : Program} {w : World} {K : Fg} {mg : Str → Option Value} {base : Heap}
theorem made_of {H H' : Hp} {x dx C : Addr} {fs : List (Str × V)} (hx : H x = none) (hd : H dx = none) (ne : dx ≠ x) (fr : ∀ q o, (upd (upd H dx (.own x)) x (.ins C dx [])) q = some o → q ≠ x → H' q = some o) : Same H H' := fun q o e => by
  have n1 : q ≠ x := ne_of_none e hx
  have n2 : q ≠ dx := ne_of_none e hd
  exact fr q o (by rw [upd_ne n1, upd_ne n2]; exact e) n1
theorem kb_tie2 {fd : FuncData} (F : FunD K d_Tie_init.name d_Tie_init.qual d_Tie_init.params d_Tie_init.body d_Tie_init.scope (d_Tie_init.dv K) (d_Tie_init.kw K) (d_Tie_init.at_ K) fd) :
    ∃ g, KBn K fd pr_Tie_init 5 ["down", "backward"] g (fun vs zs => vs ++ zs) := by
  obtain ⟨its, mv, h⟩ := FunD.kbinds F (ps := pr_Tie_init) 5 ["down", "backward"] [] (fun us _ _ ws => us ++ ws) (List.cons_ne_nil _ _) (List.cons_ne_nil _ _) (fun q hq => nomatch hq)
    (fun r1 _ _ r4 => r1.append r4) fun T D doc pm an cdv ct us its mv ws h1 h2 h3 h4 => match us, h1, its, h2, mv, h3, ws, h4 with | [_, _, _, _, _], _, [_], _, [], _, [_, _], _ => ⟨_, rfl, rfl⟩
  exact ⟨_, h⟩
theorem kb_tie1 {fd : FuncData} (F : FunD K d_Tie_init.name d_Tie_init.qual d_Tie_init.params d_Tie_init.body d_Tie_init.scope (d_Tie_init.dv K) (d_Tie_init.kw K) (d_Tie_init.at_ K) fd) :
    ∃ g, KBn K fd pr_Tie_init 5 ["down"] g (fun vs zs => vs ++ zs ++ [V.bl false]) := by
  obtain ⟨its, mv, h⟩ := FunD.kbinds F (ps := pr_Tie_init) 5 ["down"] [("backward", V.bl false)] (fun us _ mv ws => us ++ ws ++ mv) (List.cons_ne_nil _ _) (List.cons_ne_nil _ _)
    (fun q hq => by cases hq with | head => exact List.mem_cons_of_mem _ List.mem_cons_self | tail _ h => cases h)
    (fun r1 _ r3 r4 => (r1.append r4).append r3) fun T D doc pm an cdv ct us its mv ws h1 h2 h3 h4 => match us, h1, its, h2, mv, h3, ws, h4 with | [_, _, _, _, _], _, [_], _, [_], _, [_], _ => ⟨_, rfl, _, _, _, _, _, _, rfl, rfl, rfl⟩
  exact ⟨_, h⟩
end
section
variable {X : Cx} {e : Expr} {es : List Expr} {p pos p1 p2 : Pos} {k1 k2 : Expr} {t : TA} {t1 t2 : TE}
theorem pe_tie (c : Env X.K X.mg) (hr : Room 3 X.A) (hg : Gl X "Tie") (ha : PA X (e :: es) t) (h1 : PE X k1 t1) (h2 : PE X k2 t2)
    (he : starEach (e :: es) X.env = (false, eval e X.env) :: starEach es X.env := by rfl)
    (hall : (backToKw pos (keywordEach [⟨some "down", k1, p1⟩, ⟨some "backward", k2, p2⟩] X.env)).all (·.1.isSome) = true := by rfl) (hks : (backToKw pos (keywordEach [⟨some "down", k1, p1⟩, ⟨some "backward", k2, p2⟩] X.env)).filterMap (·.1) = (["down", "backward"] : List Str) := by rfl)
    (hpl : ((backTo pos (starEach (e :: es) X.env)).any (·.1) || (backToKw pos (keywordEach [⟨some "down", k1, p1⟩, ⟨some "backward", k2, p2⟩] X.env)).any (·.1.isNone)) = false := by rfl) :
    PE X (.Call (.Name "Tie" p) (e :: es) [⟨some "down", k1, p1⟩, ⟨some "backward", k2, p2⟩] pos) (tNewT X.K t (tCons t1 (tCons t2 tNil))) := by
  obtain ⟨fd, F⟩ := fd_Tie_init c
  obtain ⟨g, kb⟩ := kb_tie2 F
  have z := pe_makeK (p := p) (pos := pos) (k_Tie c) (fn_Tie_init (P := X.prog) (w := X.w) (base := X.base) c F) hr hg (g_Tie c) kb pass0 (PAmc ha) (PKmc (pk_cons (nm := some "down") (kpos := p1) h1 (pk_cons (nm := some "backward") (kpos := p2) h2 pk_nil))) hall hks (by decide) he hpl
  refine PEwk z fun σ H Q h => ⟨_, h, fun vs H1 q => ⟨_, q, fun zs H2 ⟨f, s, l, a, d, b, e1, e2, ok, q2⟩ => ?_⟩⟩
  subst e1 e2
  refine ⟨rfl, rfl, fun x dx hx hd ne => ⟨x, dx, f, s, l, a, d, b, rfl, ok, upd_same, fun H' fr hh => ⟨rfl, q2 _ _ (made_of (fs := []) hx hd ne fr) ⟨x, dx, rfl, hh⟩⟩⟩⟩
theorem pe_tieD (c : Env X.K X.mg) (hr : Room 3 X.A) (hg : Gl X "Tie") (ha : PA X (e :: es) t) (h1 : PE X k1 t1)
    (he : starEach (e :: es) X.env = (false, eval e X.env) :: starEach es X.env := by rfl)
    (hall : (backToKw pos (keywordEach [⟨some "down", k1, p1⟩] X.env)).all (·.1.isSome) = true := by rfl) (hks : (backToKw pos (keywordEach [⟨some "down", k1, p1⟩] X.env)).filterMap (·.1) = (["down"] : List Str) := by rfl)
    (hpl : ((backTo pos (starEach (e :: es) X.env)).any (·.1) || (backToKw pos (keywordEach [⟨some "down", k1, p1⟩] X.env)).any (·.1.isNone)) = false := by rfl) :
    PE X (.Call (.Name "Tie" p) (e :: es) [⟨some "down", k1, p1⟩] pos) (tNewD X.K t (tCons t1 tNil)) := by
  obtain ⟨fd, F⟩ := fd_Tie_init c
  obtain ⟨g, kb⟩ := kb_tie1 F
  have z := pe_makeK (p := p) (pos := pos) (k_Tie c) (fn_Tie_init (P := X.prog) (w := X.w) (base := X.base) c F) hr hg (g_Tie c) kb pass0 (PAmc ha) (PKmc (pk_cons (nm := some "down") (kpos := p1) h1 pk_nil)) hall hks (by decide) he hpl
  refine PEwk z fun σ H Q h => ⟨_, h, fun vs H1 q => ⟨_, q, fun zs H2 ⟨f, s, l, a, d, e1, e2, ok, q2⟩ => ?_⟩⟩
  subst e1 e2
  refine ⟨rfl, rfl, fun x dx hx hd ne => ⟨x, dx, f, s, l, a, d, false, rfl, ok, upd_same, fun H' fr hh => ⟨rfl, q2 _ _ (made_of (fs := []) hx hd ne fr) ⟨x, dx, rfl, hh⟩⟩⟩⟩
end
end TT

-- W5
set_option Elab.async false
set_option linter.all false
set_option maxRecDepth 100000
set_option maxHeartbeats 4000000
namespace TT
open PySem PySem.Spec PyProof.Rows L2
local macro_rules | `(tactic| walk_at "st") => `(tactic| repeat (first | refine ⟨_, rfl, ?_⟩ | refine ⟨_, _, rfl, rfl, ?_⟩ | refine ⟨_, by assumption, ?_⟩ | refine ⟨_, _, rfl, ?_⟩ | refine Or.inl ⟨_, rfl, ?_⟩))
theorem mx (i j : Int) : (if j > i then j else i) = max i j := by split <;> omega
theorem mn (i j : Int) : (if j < i then j else i) = min i j := by split <;> omega
section
variable {P : Program} {w : World} {K : Fg} {mg : Str → Option Value} {base : Heap}
abbrev n_Tie_partner : List Str := ["self", "place"]
abbrev pr_Tie_partner : List Str := ["self", "place"]
theorem sc_Tie_partner : FnScope n_Tie_partner pr_Tie_partner (defScope s_Tie_partner) := ⟨rfl, rfl, rfl, by decide +kernel, rfl, by decide +kernel, by decide +kernel⟩

def spPartner (K : Fg) : Sp := fun vs H Q _ => ∃ v t p, vs = [v, V.int p] ∧ TieAt K H v t ∧ Q (V.int (t.par p)) H
theorem ok_Tie_partner (c : Env K mg) : Pm P w K mg base 3 (d_Tie_partner.at_ K) (spPartner K) := by
  obtain ⟨fd, F⟩ := fd_Tie_partner c
  refine .mk0 (F.ok sc_Tie_partner (ps := pr_Tie_partner) (by intro vs H Q E h; obtain ⟨_, _, _, rfl, _⟩ := h; rfl) fun cdv A outer s H vs Q E hr h => ?_) (FunD.bindsN F fun _ _ _ _ _ _ us hl => match us, hl with | [_, _], _ => rfl) F.kp
  obtain ⟨v, t, p, rfl, ht, hQ⟩ := h
  refine ⟨_, (PSs.nox (pss_one (ps_ret (pe_ifExp (pt_val (pe_at (at_backward c) (pv 0))) (pe_op op_sub (pe_at (get_turn c (hr.mono (by decide))) (pv 0)) (pv 1)) (pe_op op_add (pv 1) (pe_at (get_shift c (hr.mono (by decide))) (pv 0))))))), ?_⟩
  refine ⟨_, rfl, t, ht, _, rfl, ite2 (fun hb => ?_) (fun hb => ?_)⟩
  · have e : t.par p = t.tu - p := if_pos hb
    rw [e] at hQ
    exact ⟨_, rfl, t, ht, _, rfl, _, _, rfl, rfl, hQ⟩
  · have e : t.par p = p + t.sh := if_neg hb
    rw [e] at hQ
    exact ⟨_, rfl, _, rfl, t, ht, _, _, rfl, rfl, hQ⟩
abbrev n_Tie_led : List Str := ["self", "note"]
abbrev pr_Tie_led : List Str := ["self", "note"]
theorem sc_Tie_led : FnScope n_Tie_led pr_Tie_led (defScope s_Tie_led) := ⟨rfl, rfl, rfl, by decide +kernel, rfl, by decide +kernel, by decide +kernel⟩

def spLed (K : Fg) : Sp := fun vs H Q _ => ∃ v t p, vs = [v, V.int p] ∧ TieAt K H v t ∧ Q (V.int (t.led p)) H
theorem ok_Tie_led (c : Env K mg) : Pm P w K mg base 3 (d_Tie_led.at_ K) (spLed K) := by
  obtain ⟨fd, F⟩ := fd_Tie_led c
  refine .mk0 (F.ok sc_Tie_led (ps := pr_Tie_led) (by intro vs H Q E h; obtain ⟨_, _, _, rfl, _⟩ := h; rfl) fun cdv A outer s H vs Q E hr h => ?_) (FunD.bindsN F fun _ _ _ _ _ _ us hl => match us, hl with | [_, _], _ => rfl) F.kp
  obtain ⟨v, t, p, rfl, ht, hQ⟩ := h
  refine ⟨_, (PSs.nox (pss_cons (ps_if (pt_not (pt_val (pe_callF (ok_is_integer1 c) (hr.mono (by decide)) rfl (g_is_integer c) (pa_cons (pv 1) pa_nil)))) (pss_one ps_never) pss_nil)
    (pss_one (ps_ret (pe_ifExp (pt_val (pe_at (at_down c) (pv 0))) (pe_op op_sub (pe_at (at_amount c) (pv 0)) (pv 1)) (pe_op op_add (pe_at (at_amount c) (pv 0)) (pv 1))))))), ?_⟩
  refine ⟨_, rfl, _, rfl, _, rfl, iteF ⟨_, rfl, t, ht, _, rfl, ite2 (fun hb => ?_) (fun hb => ?_)⟩⟩
  · have e : t.led p = t.a - p := if_pos hb
    rw [e] at hQ
    exact ⟨_, rfl, t, ht, _, rfl, _, _, rfl, rfl, hQ⟩
  · have e : t.led p = t.a + p := if_neg hb
    rw [e] at hQ
    exact ⟨_, rfl, t, ht, _, rfl, _, _, rfl, rfl, hQ⟩
abbrev n_Tie_between : List Str := ["self", "low", "high", "second"]
abbrev pr_Tie_between : List Str := ["self", "low", "high"]
theorem sc_Tie_between : FnScope n_Tie_between pr_Tie_between (defScope s_Tie_between) := ⟨rfl, rfl, rfl, by decide +kernel, rfl, by decide +kernel, by decide +kernel⟩

/-- a promise that gives a new tie -/
def giveT (K : Fg) (H : Hp) (Q : VK) (t : Lad.Ti) : Prop := ∀ v H', Same H H' → TieAt K H' v t → Q v H'
def spBetween (K : Fg) : Sp := fun vs H Q _ => ∃ v t lo hi, vs = [v, V.int lo, V.int hi] ∧ TieAt K H v t ∧ OkA lo (min (t.par lo) (t.par (hi - 1))) (hi - lo) ∧ giveT K H Q (t.btw lo hi)
theorem ok_Tie_between (c : Env K mg) : Pm P w K mg base 4 (d_Tie_between.at_ K) (spBetween K) := by
  obtain ⟨fd, F⟩ := fd_Tie_between c
  refine .mk0 (F.ok sc_Tie_between (ps := pr_Tie_between) (by intro vs H Q E h; obtain ⟨_, _, _, _, rfl, _⟩ := h; rfl) fun cdv A outer s H vs Q E hr h => ?_) (FunD.bindsN F fun _ _ _ _ _ _ us hl => match us, hl with | [_, _, _], _ => rfl) F.kp
  obtain ⟨v, t, lo, hi, rfl, ht, ok, hQ⟩ := h
  obtain ⟨a, dx, rfl, ha⟩ := ht
  have ht : TieAt K H (V.ref a) t := ⟨a, dx, rfl, ha⟩
  refine ⟨_, (PSs.nox (pss_cons (ps_set (i := 3) sc_Tie_between.nd rfl (Or.inl rfl) (pe_callB (call_min2 rfl) (by rfl) (f_min c) (by decide +kernel) (pa_cons (pe_callTy call_int1 (by rfl) (f_int c) (by decide +kernel) (pa_cons (pe_methR (pv 0) (c_Tie c) (m_Tie_partner c) (ok_Tie_partner c).run (hr.mono (by decide)) pass0 (pa_cons (pv 1) pa_nil)) pa_nil)) (pa_cons (pe_callTy call_int1 (by rfl) (f_int c) (by decide +kernel) (pa_cons (pe_methR (pv 0) (c_Tie c) (m_Tie_partner c) (ok_Tie_partner c).run (hr.mono (by decide)) pass0 (pa_cons (pe_op op_sub (pv 2) pe_int) pa_nil)) pa_nil)) pa_nil))))
    (pss_one (ps_ret (pe_tie c (hr.mono (by decide)) rfl (pa_cons (pv 1) (pa_cons (pv 3) (pa_cons (pe_op op_sub (pv 2) (pv 1)) (pa_cons (pe_at (at_amount c) (pv 0)) pa_nil)))) (pe_at (at_down c) (pv 0)) (pe_at (at_backward c) (pv 0))))))), ?_⟩
  refine ⟨_, rfl, a, dx, _, rfl, ha, rfl, _, rfl, _, t, _, rfl, ht, .inl ⟨_, rfl, ?_⟩⟩
  refine ⟨_, rfl, a, dx, _, rfl, ha, rfl, _, rfl, _, _, rfl, rfl, _, t, _, rfl, ht, .inl ⟨_, rfl, ?_⟩⟩
  refine ⟨_, _, rfl, ?_⟩
  rw [mn]
  refine ⟨_, rfl, _, rfl, _, rfl, _, rfl, _, _, rfl, rfl, _, rfl, t, ht, _, rfl, t, ht, _, rfl, t, ht, ?_⟩
  exact ⟨_, _, _, _, _, _, rfl, rfl, ok, hQ⟩
abbrev n_Tie_part : List Str := ["self", "start", "length"]
abbrev pr_Tie_part : List Str := ["self", "start", "length"]
theorem sc_Tie_part : FnScope n_Tie_part pr_Tie_part (defScope s_Tie_part) := ⟨rfl, rfl, rfl, by decide +kernel, rfl, by decide +kernel, by decide +kernel⟩

def spPartM (K : Fg) : Sp := fun vs H Q _ => ∃ v t st n, vs = [v, V.int st, V.int n] ∧ TieAt K H v t ∧ Lad.Ok t ∧ 0 ≤ st ∧ 1 ≤ n ∧ st + n ≤ t.l ∧ giveT K H Q (t.part st n)
theorem ok_Tie_part (c : Env K mg) : Pm P w K mg base 5 (d_Tie_part.at_ K) (spPartM K) := by
  obtain ⟨fd, F⟩ := fd_Tie_part c
  refine .mk0 (F.ok sc_Tie_part (ps := pr_Tie_part) (by intro vs H Q E h; obtain ⟨_, _, _, _, rfl, _⟩ := h; rfl) fun cdv A outer s H vs Q E hr h => ?_) (FunD.bindsN F fun _ _ _ _ _ _ us hl => match us, hl with | [_, _, _], _ => rfl) F.kp
  obtain ⟨v, t, st, n, rfl, ht, ok, h0, h1, h2, hQ⟩ := h
  obtain ⟨a, dx, rfl, ha⟩ := ht
  have ht : TieAt K H (V.ref a) t := ⟨a, dx, rfl, ha⟩
  refine ⟨_, (PSs.nox (pss_cons (ps_if (PW.pt (pw_or (pt_not (pt_val (pe_callF (ok_is_integer2 c) (hr.mono (by decide)) rfl (g_is_integer c) (pa_cons (pv 1) (pa_cons pe_int pa_nil))))) (pw_or1 (pt_not (pt_val (pe_callF (ok_is_integer3 c) (hr.mono (by decide)) rfl (g_is_integer c) (pa_cons (pv 2) (pa_cons pe_int (pa_cons (pe_op op_sub (pe_at (at_length c) (pv 0)) (pv 1)) pa_nil))))))))) (pss_one ps_never) pss_nil)
    (pss_one (ps_ret (pe_methR (pv 0) (c_Tie c) (m_Tie_between c) (ok_Tie_between c).run (hr.mono (by decide)) pass0 (pa_cons (pe_op op_add (pe_at (at_first c) (pv 0)) (pv 1)) (pa_cons (pe_op op_add (pe_op op_add (pe_at (at_first c) (pv 0)) (pv 1)) (pv 2)) pa_nil))))))), ?_⟩
  refine ⟨_, rfl, st, 0, rfl, _, rfl, ?_⟩
  rw [decide_eq_true h0]
  refine iteF ⟨_, rfl, _, rfl, t, ht, _, rfl, _, _, rfl, rfl, n, 1, _, rfl, _, rfl, ?_⟩
  rw [decide_eq_true h1, decide_eq_true (show n ≤ t.l - st by omega)]
  refine iteF ⟨_, rfl, a, dx, _, rfl, ha, rfl, _, rfl, t, ht, _, rfl, _, _, rfl, rfl, _, rfl, t, ht, _, rfl, _, _, rfl, rfl, _, rfl, _, _, rfl, rfl, ?_⟩
  exact ⟨_, t, _, _, rfl, ht, Lad.part_ar ok h0 h1 h2, hQ⟩
abbrev n_Tie_invert : List Str := ["self", "amount"]
abbrev pr_Tie_invert : List Str := ["self"]
theorem sc_Tie_invert : FnScope n_Tie_invert pr_Tie_invert (defScope s_Tie_invert) := ⟨rfl, rfl, rfl, by decide +kernel, rfl, by decide +kernel, by decide +kernel⟩

def spInv (K : Fg) : Sp := fun vs H Q _ => ∃ v t, vs = [v] ∧ TieAt K H v t ∧ Lad.Ok t ∧ giveT K H Q t.inv
theorem ok_Tie_invert (c : Env K mg) : Pm P w K mg base 4 (d_Tie_invert.at_ K) (spInv K) := by
  obtain ⟨fd, F⟩ := fd_Tie_invert c
  refine .mk0 (F.ok sc_Tie_invert (ps := pr_Tie_invert) (by intro vs H Q E h; obtain ⟨_, _, rfl, _⟩ := h; rfl) fun cdv A outer s H vs Q E hr h => ?_) (FunD.bindsN F fun _ _ _ _ _ _ us hl => match us, hl with | [_], _ => rfl) F.kp
  obtain ⟨v, t, rfl, ht, ok, hQ⟩ := h
  refine ⟨_, (PSs.nox (pss_cons (ps_set (i := 1) sc_Tie_invert.nd rfl (Or.inl rfl) (pe_ifExp (pt_val (pe_at (at_down c) (pv 0))) (pe_at (at_amount c) (pv 0)) (pe_un un_neg (pe_at (at_amount c) (pv 0)))))
    (pss_one (ps_ret (pe_tie c (hr.mono (by decide)) rfl (pa_cons (pe_at (get_second c (hr.mono (by decide))) (pv 0)) (pa_cons (pe_at (get_first c (hr.mono (by decide))) (pv 0)) (pa_cons (pe_at (get_length c (hr.mono (by decide))) (pv 0)) (pa_cons (pv 1) pa_nil)))) (pe_at (get_down c (hr.mono (by decide))) (pv 0)) (pe_at (get_backward c (hr.mono (by decide))) (pv 0))))))), ?_⟩
  refine ⟨_, rfl, t, ht, _, rfl, ite2 (fun hb => ?_) (fun hb => ?_)⟩
  · have e : (if t.d then t.a else -t.a) = t.a := if_pos hb
    unfold Lad.Ti.inv at hQ
    rw [e] at hQ
    refine ⟨_, rfl, t, ht, ?_⟩
    refine ⟨_, rfl, t, ht, _, rfl, t, ht, _, rfl, t, ht, _, rfl, _, rfl, t, ht, _, rfl, t, ht, ?_⟩
    exact ⟨_, _, _, _, _, _, rfl, rfl, ⟨ok.s0, ok.f0, ok.l1, ok.se, ok.fe⟩, hQ⟩
  · have e : (if t.d then t.a else -t.a) = -t.a := if_neg hb
    unfold Lad.Ti.inv at hQ
    rw [e] at hQ
    refine ⟨_, rfl, t, ht, _, rfl, ?_⟩
    refine ⟨_, rfl, t, ht, _, rfl, t, ht, _, rfl, t, ht, _, rfl, _, rfl, t, ht, _, rfl, t, ht, ?_⟩
    exact ⟨_, _, _, _, _, _, rfl, rfl, ⟨ok.s0, ok.f0, ok.l1, ok.se, ok.fe⟩, hQ⟩
abbrev n_Tie_places_into : List Str := ["self", "first", "behind", "low", "high"]
abbrev pr_Tie_places_into : List Str := ["self", "first", "behind"]
theorem sc_Tie_places_into : FnScope n_Tie_places_into pr_Tie_places_into (defScope s_Tie_places_into) := ⟨rfl, rfl, rfl, by decide +kernel, rfl, by decide +kernel, by decide +kernel⟩

def spInto (K : Fg) : Sp := fun vs H Q _ => ∃ v t x y, vs = [v, V.int x, V.int y] ∧ TieAt K H v t ∧ ∀ p, H p = none → Q (V.ref p) (upd H p (.tup [V.int (t.intoLo x y), V.int (t.intoHi x y)]))
theorem ok_Tie_places_into (c : Env K mg) : Pm P w K mg base 3 (d_Tie_places_into.at_ K) (spInto K) := by
  obtain ⟨fd, F⟩ := fd_Tie_places_into c
  refine .mk0 (F.ok sc_Tie_places_into (ps := pr_Tie_places_into) (by intro vs H Q E h; obtain ⟨_, _, _, _, rfl, _⟩ := h; rfl) fun cdv A outer s H vs Q E hr h => ?_) (FunD.bindsN F fun _ _ _ _ _ _ us hl => match us, hl with | [_, _, _], _ => rfl) F.kp
  obtain ⟨v, t, x, y, rfl, ht, hQ⟩ := h
  refine ⟨_, (PSs.nox (pss_cons (ps_if (pt_val (pe_at (at_backward c) (pv 0))) (pss_one (ps_par (i := 3) (j := 4) (by rfl) sc_Tie_places_into.nd rfl rfl (by decide) rfl rfl (pa_cons (pe_op op_add (pe_op op_sub (pe_at (get_turn c (hr.mono (by decide))) (pv 0)) (pv 2)) pe_int) (pa_cons (pe_op op_add (pe_op op_sub (pe_at (get_turn c (hr.mono (by decide))) (pv 0)) (pv 1)) pe_int) pa_nil)) (by rfl))) (pss_one (ps_par (i := 3) (j := 4) (by rfl) sc_Tie_places_into.nd rfl rfl (by decide) rfl rfl (pa_cons (pe_op op_sub (pv 1) (pe_at (get_shift c (hr.mono (by decide))) (pv 0))) (pa_cons (pe_op op_sub (pv 2) (pe_at (get_shift c (hr.mono (by decide))) (pv 0))) pa_nil)) (by rfl))))
    (pss_one (ps_ret (pe_tup (pa_cons (pe_callB (call_max2 rfl) (by rfl) (f_max c) (by decide +kernel) (pa_cons (pe_callTy call_int1 (by rfl) (f_int c) (by decide +kernel) (pa_cons (pv 3) pa_nil)) (pa_cons (pe_callTy call_int1 (by rfl) (f_int c) (by decide +kernel) (pa_cons (pe_at (at_first c) (pv 0)) pa_nil)) pa_nil))) (pa_cons (pe_callB (call_min2 rfl) (by rfl) (f_min c) (by decide +kernel) (pa_cons (pe_callTy call_int1 (by rfl) (f_int c) (by decide +kernel) (pa_cons (pv 4) pa_nil)) (pa_cons (pe_callTy call_int1 (by rfl) (f_int c) (by decide +kernel) (pa_cons (pe_op op_add (pe_at (at_first c) (pv 0)) (pe_at (at_length c) (pv 0))) pa_nil)) pa_nil))) pa_nil))))))), ?_⟩
  refine ⟨_, rfl, t, ht, _, rfl, ite2 (fun hb => ?_) (fun hb => ?_)⟩
  · have e1 : t.intoLo x y = max (t.tu - y + 1) t.f := by unfold Lad.Ti.intoLo; rw [if_pos hb]
    have e2 : t.intoHi x y = min (t.tu - x + 1) (t.f + t.l) := by unfold Lad.Ti.intoHi; rw [if_pos hb]
    rw [e1, e2] at hQ
    refine ⟨_, rfl, t, ht, _, rfl, _, _, rfl, rfl, _, _, rfl, rfl, _, rfl, t, ht, _, rfl, _, _, rfl, rfl, _, _, rfl, rfl, _, _, rfl, ?_⟩
    refine ⟨_, rfl, .inl ⟨_, rfl, _, rfl, t, ht, .inl ⟨_, rfl, _, _, rfl, ?_⟩⟩⟩
    refine ⟨_, rfl, .inl ⟨_, rfl, _, rfl, t, ht, _, rfl, t, ht, _, _, rfl, rfl, .inl ⟨_, rfl, _, _, rfl, ?_⟩⟩⟩
    rw [mx, mn]
    exact ⟨by show 2 ≤ sizeLine; decide, hQ⟩
  · have e1 : t.intoLo x y = max (x - t.sh) t.f := by unfold Lad.Ti.intoLo; rw [if_neg hb]
    have e2 : t.intoHi x y = min (y - t.sh) (t.f + t.l) := by unfold Lad.Ti.intoHi; rw [if_neg hb]
    rw [e1, e2] at hQ
    refine ⟨_, rfl, _, rfl, t, ht, _, _, rfl, rfl, _, rfl, _, rfl, t, ht, _, _, rfl, rfl, _, _, rfl, ?_⟩
    refine ⟨_, rfl, .inl ⟨_, rfl, _, rfl, t, ht, .inl ⟨_, rfl, _, _, rfl, ?_⟩⟩⟩
    refine ⟨_, rfl, .inl ⟨_, rfl, _, rfl, t, ht, _, rfl, t, ht, _, _, rfl, rfl, .inl ⟨_, rfl, _, _, rfl, ?_⟩⟩⟩
    rw [mx, mn]
    exact ⟨by show 2 ≤ sizeLine; decide, hQ⟩
end
end TT

-- R2
set_option Elab.async false
set_option linter.all false
set_option maxRecDepth 100000
set_option maxHeartbeats 4000000
namespace TT
open PySem PySem.Spec PyProof.Rows L2
/-! ### comprehensions whose elements touch no object -/
theorem same_upd {H : Hp} {D : Addr} {o : HO} (h : H D = none) : Same H (upd H D o) := fun q u e => by rw [upd_ne (ne_of_none e h)]; exact e
theorem same_sqT {K : Fg} {H H' : Hp} {a : Addr} {xs : List V} (e : Same H H') (h : SqT K H a xs) : SqT K H' a xs := by
  rcases h with (h | ⟨o, h⟩) | h
  · exact .inl (.inl (e _ _ h))
  · exact .inl (.inr ⟨o, e _ _ h⟩)
  · exact .inr h
theorem map_take {f : V → V} {xs : List V} {i : Nat} {x : V} (h : xs[i]? = some x) : (xs.take i).map f ++ [f x] = (xs.take (i + 1)).map f := by
  rw [List.take_add_one, h, List.map_append]
  rfl
/-- what a comprehension over J asks, its goal Qd -/
def LcAsk (J : It) (g : TG) (tt : TT) (te : TE) (vs : List Nat) (σ : L2.St) (H1 : Hp) (D : Addr) (Qd : Hp → Prop) : Prop :=
  ∃ W : Nat → Nat → Hp → Prop, (∃ m, W 0 m (upd H1 D (.lst []))) ∧ ∀ n m H, W n m H → (J.stop n H ∧ Qd H) ∨ (J.go n H ∧ ∃ Nx : Hp → Prop, (∀ H', Nx H' → ∃ m', m' < m ∧ W (n + 1) m' H') ∧
    ∀ x H', J.yld n H x H' → g x (wipe σ vs) H' fun s2 H2 => wipe s2 vs = wipe σ vs ∧ tt s2 H2 fun b H3 => if b = true then te s2 H3 fun y H4 => ∃ acc, H4 D = some (.lst acc) ∧ acc.length < sizeLine ∧ Nx (upd H4 D (.lst (acc ++ [y]))) else Nx H3)
section
variable {K : Fg} {a : Addr} {xs : List V} {i : Nat} {te : TE} {vs : List Nat} {σ : L2.St} {H1 : Hp} {D : Addr} {Qd : Hp → Prop}
theorem lc_listM (f : V → V) (hT : SqL K H1 a xs) (hD : H1 D = none) (hz : xs.length ≤ sizeLine) (hw : ∀ x, wipe ((wipe σ vs).set i (some x)) vs = wipe σ vs)
    (he : ∀ x ∈ xs, ∀ ys (Q : VK), Q (f x) (upd H1 D (.lst ys)) → te ((wipe σ vs).set i (some x)) (upd H1 D (.lst ys)) Q) (hd : Qd (upd H1 D (.lst (xs.map f)))) : LcAsk (Itl K a) (gName i) tYes te vs σ H1 D Qd := by
  refine lc_list (xs := xs) (fun n H => H = upd H1 D (.lst ((xs.take n).map f))) (by simp) (fun n H _ e => ?_) (fun n x H hx e => ?_) (fun H e => ?_)
  · rw [e]; exact (same_upd hD).seq hT
  · refine ⟨hw x, ?_⟩
    show te _ H _
    rw [e]
    refine he x (List.mem_of_getElem? hx) _ _ ⟨_, upd_same, ?_, ?_⟩
    · have := (List.getElem?_eq_some_iff.mp hx).1
      rw [List.length_map, List.length_take]; omega
    · rw [upd_upd, map_take hx]
  · rw [e, List.take_length]; exact hd
theorem lc_tupM (f : V → V) (hT : SqT K H1 a xs) (hD : H1 D = none) (hz : xs.length ≤ sizeLine) (hw : ∀ x, wipe ((wipe σ vs).set i (some x)) vs = wipe σ vs)
    (he : ∀ x ∈ xs, ∀ ys (Q : VK), Q (f x) (upd H1 D (.lst ys)) → te ((wipe σ vs).set i (some x)) (upd H1 D (.lst ys)) Q) (hd : Qd (upd H1 D (.lst (xs.map f)))) : LcAsk (Itt K a) (gName i) tYes te vs σ H1 D Qd := by
  refine lc_tup (xs := xs) (fun n H => H = upd H1 D (.lst ((xs.take n).map f))) (by simp) (fun n H _ e => ?_) (fun n x H hx e => ?_) (fun H e => ?_)
  · rw [e]; exact same_sqT (same_upd hD) hT
  · refine ⟨hw x, ?_⟩
    show te _ H _
    rw [e]
    refine he x (List.mem_of_getElem? hx) _ _ ⟨_, upd_same, ?_, ?_⟩
    · have := (List.getElem?_eq_some_iff.mp hx).1
      rw [List.length_map, List.length_take]; omega
    · rw [upd_upd, map_take hx]
  · rw [e, List.take_length]; exact hd
end
end TT

-- W6
set_option Elab.async false
set_option linter.all false
set_option maxRecDepth 100000
set_option maxHeartbeats 4000000
namespace TT
open PySem PySem.Spec PyProof.Rows L2
section
variable {P : Program} {w : World} {K : Fg} {mg : Str → Option Value} {base : Heap}
abbrev n_Tie_led_often : List Str := ["self", "many"]
abbrev pr_Tie_led_often : List Str := ["self", "many"]
theorem sc_Tie_led_often : FnScope n_Tie_led_often pr_Tie_led_often (defScope s_Tie_led_often) := ⟨rfl, rfl, rfl, by decide +kernel, rfl, by decide +kernel, by decide +kernel⟩

def spOften (K : Fg) : Sp := fun vs H Q _ => ∃ v t m, vs = [v, V.int m] ∧ TieAt K H v t ∧ 0 ≤ m ∧ m < 2 ^ 64 ∧ ∀ p, H p = none → Q (V.ref p) (upd H p (.tup [V.int (t.oftA m), V.bl (t.oftD m)]))
theorem ok_Tie_led_often (c : Env K mg) : Pm P w K mg base 1 (d_Tie_led_often.at_ K) (spOften K) := by
  obtain ⟨fd, F⟩ := fd_Tie_led_often c
  refine .mk0 (F.ok sc_Tie_led_often (ps := pr_Tie_led_often) (by intro vs H Q E h; obtain ⟨_, _, _, rfl, _⟩ := h; rfl) fun cdv A outer s H vs Q E hr h => ?_) (FunD.bindsN F fun _ _ _ _ _ _ us hl => match us, hl with | [_, _], _ => rfl) F.kp
  obtain ⟨v, t, m, rfl, ht, m0, m1, hQ⟩ := h
  refine ⟨_, (PSs.nox (pss_cons (ps_if (pt_val (pe_at (at_down c) (pv 0))) (pss_one (ps_ret (pe_tup (pa_cons (pe_op op_mul (pe_at (at_amount c) (pv 0)) (pe_op op_mod (pv 1) pe_int)) (pa_cons (pe_cmpR op_eq (pe_op op_mod (pv 1) pe_int) pe_int (nomark _)) pa_nil))))) pss_nil)
    (pss_one (ps_ret (pe_tup (pa_cons (pe_op op_mul (pe_at (at_amount c) (pv 0)) (pv 1)) (pa_cons pe_bl pa_nil))))))), ?_⟩
  refine ⟨_, rfl, t, ht, _, rfl, ite2 (fun hb => ?_) (fun hb => ?_)⟩
  · have e1 : t.oftA m = t.a * (m % 2) := if_pos hb
    have e2 : t.oftD m = (m % 2 == 1) := by unfold Lad.Ti.oftD; rw [hb, Bool.true_and]
    rw [e1, e2] at hQ
    refine ⟨_, rfl, t, ht, _, rfl, _, _, rfl, rfl, (by show (0 : Int) < 2; decide), _, _, rfl, rfl, .inr ⟨by omega, by omega⟩, _, rfl, _, _, rfl, rfl, (by show (0 : Int) < 2; decide), rfl, ?_⟩
    rw [dec_int]
    exact ⟨by show 2 ≤ sizeLine; decide, hQ⟩
  · have hb : t.d = false := Bool.eq_false_iff.mpr hb
    have e1 : t.oftA m = t.a * m := by unfold Lad.Ti.oftA; rw [hb]; rfl
    have e2 : t.oftD m = false := by unfold Lad.Ti.oftD; rw [hb, Bool.false_and]
    rw [e1, e2] at hQ
    exact ⟨_, rfl, t, ht, _, rfl, _, _, rfl, rfl, .inr ⟨by omega, by omega⟩, by show 2 ≤ sizeLine; decide, hQ⟩
abbrev n_Tie_mul : List Str := ["self", "many", "step", "far", "low", "high", "amount", "down"]
abbrev pr_Tie_mul : List Str := ["self", "many"]
theorem sc_Tie_mul : FnScope n_Tie_mul pr_Tie_mul (defScope s_Tie_mul) := ⟨rfl, rfl, rfl, by decide +kernel, rfl, by decide +kernel, by decide +kernel⟩

def spMul (K : Fg) : Sp := fun vs H Q _ => ∃ v t m, vs = [v, V.int m] ∧ TieAt K H v t ∧ Lad.Ok t ∧ Lad.TGood t m ∧ giveT K H Q (t.times m)
theorem ok_Tie_mul (c : Env K mg) : Pm P w K mg base 4 (d_Tie_mul.at_ K) (spMul K) := by
  obtain ⟨fd, F⟩ := fd_Tie_mul c
  refine .mk0 (F.ok sc_Tie_mul (ps := pr_Tie_mul) (by intro vs H Q E h; obtain ⟨_, _, _, rfl, _⟩ := h; rfl) fun cdv A outer s H vs Q E hr h => ?_) (FunD.bindsN F fun _ _ _ _ _ _ us hl => match us, hl with | [_, _], _ => rfl) F.kp
  obtain ⟨v, t, m, rfl, ht, ok, g, hQ⟩ := h
  obtain ⟨a, dx, rfl, ha⟩ := ht
  have ht : TieAt K H (V.ref a) t := ⟨a, dx, rfl, ha⟩
  have hm1 := g.m1
  have hm2 := g.ms
  refine ⟨_, (PSs.nox (pss_cons (ps_if (pt_not (pt_val (pe_callF (ok_is_integer3 c) (hr.mono (by decide)) rfl (g_is_integer c) (pa_cons (pv 1) (pa_cons pe_int (pa_cons (pe_glob (v := V.int 1000000000000000000000000000000) rfl (i_END c).choose_spec ⟨_, rfl⟩) pa_nil)))))) (pss_one ps_never) pss_nil)
    (pss_cons (ps_if (pt_cmpR op_eq (pv 1) pe_int (nomark _)) (pss_one (ps_ret (pv 0))) pss_nil)
    (pss_cons (ps_if (pt_val (pe_at (at_backward c) (pv 0))) pss_never (pss_cons (ps_set (i := 2) sc_Tie_mul.nd rfl (Or.inl rfl) (pe_at (get_shift c (hr.mono (by decide))) (pv 0)))
    (pss_cons (ps_set (i := 3) sc_Tie_mul.nd rfl (Or.inl rfl) (pe_op op_mul (pe_op op_sub (pv 1) pe_int) (pv 2)))
    (pss_cons (ps_set (i := 4) sc_Tie_mul.nd rfl (Or.inl rfl) (pe_callB (call_max2 rfl) (by rfl) (f_max c) (by decide +kernel) (pa_cons (pe_at (get_first c (hr.mono (by decide))) (pv 0)) (pa_cons (pe_callTy call_int1 (by rfl) (f_int c) (by decide +kernel) (pa_cons (pe_op op_sub (pe_at (get_first c (hr.mono (by decide))) (pv 0)) (pv 3)) pa_nil)) pa_nil))))
    (pss_one (ps_set (i := 5) sc_Tie_mul.nd rfl (Or.inl rfl) (pe_callB (call_min2 rfl) (by rfl) (f_min c) (by decide +kernel) (pa_cons (pe_callTy call_int1 (by rfl) (f_int c) (by decide +kernel) (pa_cons (pe_op op_add (pe_at (get_first c (hr.mono (by decide))) (pv 0)) (pe_at (get_length c (hr.mono (by decide))) (pv 0))) pa_nil)) (pa_cons (pe_callTy call_int1 (by rfl) (f_int c) (by decide +kernel) (pa_cons (pe_op op_sub (pe_op op_add (pe_at (get_first c (hr.mono (by decide))) (pv 0)) (pe_at (get_length c (hr.mono (by decide))) (pv 0))) (pv 3)) pa_nil)) pa_nil)))))))))
    (pss_cons (ps_if (pt_cmpR op_ge (pv 4) (pv 5) (nomark _)) (pss_one ps_never) pss_nil)
    (pss_cons (ps_asg (pe_methR (pv 0) (c_Tie c) (m_Tie_led_often c) (ok_Tie_led_often c).run (hr.mono (by decide)) pass0 (pa_cons (pv 1) pa_nil)) (pg_tup rfl (pgs_cons (pg_name (i := 6) sc_Tie_mul.nd rfl (Or.inl rfl)) (pgs_cons (pg_name (i := 7) sc_Tie_mul.nd rfl (Or.inl rfl)) pgs_nil))))
    (pss_one (ps_ret (pe_tie c (hr.mono (by decide)) rfl (pa_cons (pv 4) (pa_cons (pe_op op_add (pv 4) (pe_op op_mul (pv 1) (pv 2))) (pa_cons (pe_op op_sub (pv 5) (pv 4)) (pa_cons (pv 6) pa_nil)))) (pv 7) (pe_and (pe_at (get_backward c (hr.mono (by decide))) (pv 0)) (pe_one (pe_cmpR op_eq (pe_op op_mod (pv 1) pe_int) pe_int (nomark _))))))))))))), ?_⟩
  refine ⟨_, rfl, m, 1, _, rfl, _, rfl, ?_⟩
  rw [decide_eq_true hm1, decide_eq_true (show m ≤ 1000000000000000000000000000000 by omega)]
  refine iteF ⟨_, rfl, rfl, _, rfl, ?_⟩
  rw [dec_int]
  by_cases hm : m = 1
  · subst hm
    exact iteT ⟨_, rfl, hQ _ _ (Same.refl _) (by unfold Lad.Ti.times; rw [if_pos rfl]; exact ht)⟩
  · rw [beq_eq_false_iff_ne.mpr hm]
    obtain ⟨gb, gs, gl⟩ := g.b hm
    refine iteF ⟨_, rfl, t, ht, _, rfl, ?_⟩
    rw [gb]
    refine iteF ⟨_, rfl, t, ht, _, rfl, _, _, rfl, rfl, _, rfl, _, _, rfl, rfl, .inl ⟨by omega, by omega⟩, ?_⟩
    refine ⟨_, rfl, t, ht, _, rfl, t, ht, _, rfl, _, _, rfl, rfl, .inl ⟨_, rfl, _, _, rfl, ?_⟩⟩
    refine ⟨_, rfl, t, ht, _, rfl, t, ht, _, _, rfl, rfl, .inl ⟨_, rfl, ?_⟩⟩
    refine ⟨_, rfl, t, ht, _, rfl, t, ht, _, _, rfl, rfl, _, rfl, _, _, rfl, rfl, .inl ⟨_, rfl, _, _, rfl, ?_⟩⟩
    rw [mx, mn]
    have p : 0 ≤ (m - 1) * t.sh := Int.mul_nonneg (by omega) gs
    have ar := Lad.times_ar ok g hm
    have e0 : t.times m = Lad.tie t.f (t.f + m * t.sh) (t.l - (m - 1) * t.sh) (t.oftA m) (t.oftD m) false := if_neg hm
    rw [e0] at hQ
    have e1 : max t.f (t.f - (m - 1) * t.sh) = t.f := by omega
    have e2 : min (t.f + t.l) (t.f + t.l - (m - 1) * t.sh) = t.f + t.l - (m - 1) * t.sh := by omega
    have e3 : t.f + t.l - (m - 1) * t.sh - t.f = t.l - (m - 1) * t.sh := by omega
    rw [e1, e2]
    refine ⟨_, rfl, _, rfl, _, _, rfl, rfl, _, rfl, ?_⟩
    rw [decide_eq_false (show ¬ (t.f + t.l - (m - 1) * t.sh ≤ t.f) by omega)]
    refine iteF ⟨_, rfl, a, dx, _, rfl, ha, rfl, _, rfl, _, t, m, rfl, ht, by omega, hm2, fun p hp => ?_⟩
    have s1 : Same H (upd H p (.tup [V.int (t.oftA m), V.bl (t.oftD m)])) := same_upd hp
    have hp1 : (upd H p (.tup [V.int (t.oftA m), V.bl (t.oftD m)])) p = some (.tup [V.int (t.oftA m), V.bl (t.oftD m)]) := upd_same
    revert s1 hp1
    generalize upd H p (.tup [V.int (t.oftA m), V.bl (t.oftD m)]) = H1
    intro s1 hp1
    have ht1 := ht.mono s1
    refine ⟨p, _, rfl, .of hp1, rfl, _, _, rfl, _, _, rfl, rfl, ?_⟩
    refine ⟨_, rfl, _, rfl, _, rfl, _, rfl, _, _, rfl, rfl, .inl ⟨by omega, by omega⟩, _, _, rfl, rfl, _, rfl, _, rfl, _, _, rfl, rfl, _, rfl, _, rfl, _, rfl, t, ht1, _, rfl, ?_⟩
    rw [gb]
    refine iteF ⟨_, _, _, _, _, _, rfl, rfl, ?_, ?_⟩
    · rw [e3]; exact ar
    · rw [e3]
      exact fun v H' s2 hv => hQ v H' (s1.trans s2) hv
def ptF (t1 t2 : Lad.Ti) : V → V
  | .int z => V.int (t2.par (t1.par z))
  | x => x
abbrev n_Tie_rshift : List Str := ["self", "other", "ends", "low", "high", "second", "backward", "place", "end"]
abbrev pr_Tie_rshift : List Str := ["self", "other"]
theorem sc_Tie_rshift : FnScope n_Tie_rshift pr_Tie_rshift (defScope s_Tie_rshift) := ⟨rfl, rfl, rfl, by decide +kernel, rfl, by decide +kernel, by decide +kernel⟩

def spShift (K : Fg) : Sp := fun vs H Q _ => ∃ v u t1 t2, vs = [v, u] ∧ TieAt K H v t1 ∧ TieAt K H u t2 ∧ Lad.Ok t1 ∧ Lad.Ok t2 ∧ Lad.JGood t1 t2 ∧ giveT K H Q (t1.join t2)
theorem bne_bl (a b : Bool) : (!decide (V.bl a = V.bl b)) = (a != b) := by cases a <;> cases b <;> rfl
theorem ok_Tie_rshift (c : Env K mg) : Pm P w K mg base 4 (d_Tie_rshift.at_ K) (spShift K) := by
  obtain ⟨fd, F⟩ := fd_Tie_rshift c
  refine .mk0 (F.ok sc_Tie_rshift (ps := pr_Tie_rshift) (by intro vs H Q E h; obtain ⟨_, _, _, _, rfl, _⟩ := h; rfl) fun cdv A outer s H vs Q E hr h => ?_) (FunD.bindsN F fun _ _ _ _ _ _ us hl => match us, hl with | [_, _], _ => rfl) F.kp
  obtain ⟨v, u, t1, t2, rfl, h1, h2, k1, k2, g, hQ⟩ := h
  obtain ⟨a, dx, rfl, ha⟩ := h1
  have h1 : TieAt K H (V.ref a) t1 := ⟨a, dx, rfl, ha⟩
  obtain ⟨b, dy, rfl, hb⟩ := h2
  have h2 : TieAt K H (V.ref b) t2 := ⟨b, dy, rfl, hb⟩
  refine ⟨_, (PSs.nox (pss_cons (ps_if (pt_not (pt_val (pe_callB (is_tie c) (by rfl) (f_isinstance c) (by decide +kernel) (pa_cons (pv 1) (pa_cons (pe_glob (v := V.ref (gA "Tie" K)) rfl (g_Tie c) rfl) pa_nil))))) (pss_one ps_never) pss_nil)
    (pss_cons (ps_asg (pe_methR (pv 0) (c_Tie c) (m_Tie_places_into c) (ok_Tie_places_into c).run (hr.mono (by decide)) pass0 (pa_cons (pe_at (get_first c (hr.mono (by decide))) (pv 1)) (pa_cons (pe_op op_add (pe_at (get_first c (hr.mono (by decide))) (pv 1)) (pe_at (get_length c (hr.mono (by decide))) (pv 1))) pa_nil))) (pg_tup rfl (pgs_cons (pg_name (i := 3) sc_Tie_rshift.nd rfl (Or.inl rfl)) (pgs_cons (pg_name (i := 4) sc_Tie_rshift.nd rfl (Or.inl rfl)) pgs_nil))))
    (pss_cons (ps_if (pt_cmpR op_ge (pv 3) (pv 4) (nomark _)) (pss_one ps_never) pss_nil)
    (pss_cons (ps_setLc (i := 2) (own := [("place", 7)]) (g := (gName 7)) (tt := tYes) (by rfl) sc_Tie_rshift.nd rfl rfl (sw_true rfl rfl rfl (by decide +kernel)) (pi_tup (pe_tup (pa_cons (pv 3) (pa_cons (pe_op op_sub (pv 4) pe_int) pa_nil)))) (blkOk_by (own := [("place", 7)]) (N := n_Tie_rshift) (sc := defScope s_Tie_rshift) (by decide +kernel)) (fun _ _ _ _ _ => (pg_name (i := 7) sc_Tie_rshift.nd rfl (Or.inl rfl))) (fun _ _ _ _ _ => pts_nil) (fun _ _ _ _ _ => (pe_methR (pv 1) (c_Tie c) (m_Tie_partner c) (ok_Tie_partner c).run (hr.mono (by decide)) pass0 (pa_cons (pe_methR (pv 0) (c_Tie c) (m_Tie_partner c) (ok_Tie_partner c).run (hr.mono (by decide)) pass0 (pa_cons (pv 7) pa_nil)) pa_nil))))
    (pss_cons (ps_par (i := 5) (j := 6) (by rfl) sc_Tie_rshift.nd rfl rfl (by decide) rfl rfl (pa_cons (pe_callB (cr_min rfl) (by rfl) (f_min c) (by decide +kernel) (pa_cons (pe_lc (own := [("end", 8)]) (g := (gName 8)) (tt := tYes) (by rfl) sc_Tie_rshift.nd (pi_list (pv 2)) (blkOk_by (own := [("end", 8)]) (N := n_Tie_rshift) (sc := defScope s_Tie_rshift) (by decide +kernel)) (fun _ _ _ _ _ => (pg_name (i := 8) sc_Tie_rshift.nd rfl (Or.inl rfl))) (fun _ _ _ _ _ => pts_nil) (fun _ _ _ _ _ => (pe_callTy call_int1 (by rfl) (f_int c) (by decide +kernel) (pa_cons (pv 8) pa_nil)))) pa_nil)) (pa_cons (pe_cmpR op_ne (pe_at (get_backward c (hr.mono (by decide))) (pv 0)) (pe_at (get_backward c (hr.mono (by decide))) (pv 1)) (nomark _)) pa_nil)) (by rfl))
    (pss_one (ps_ret (pe_tie c (hr.mono (by decide)) rfl (pa_cons (pv 3) (pa_cons (pv 5) (pa_cons (pe_op op_sub (pv 4) (pv 3)) (pa_cons (pe_methR (pv 1) (c_Tie c) (m_Tie_led c) (ok_Tie_led c).run (hr.mono (by decide)) pass0 (pa_cons (pe_at (get_amount c (hr.mono (by decide))) (pv 0)) pa_nil)) pa_nil)))) (pe_cmpR op_ne (pe_at (get_down c (hr.mono (by decide))) (pv 0)) (pe_at (get_down c (hr.mono (by decide))) (pv 1)) (nomark _)) (pv 6)))))))))), ?_⟩
  have ar := Lad.join_ar k1 k2 g
  unfold Lad.Ti.join Lad.Ti.joinAt at hQ
  have g : t1.intoLo t2.f (t2.f + t2.l) < t1.intoHi t2.f (t2.f + t2.l) := g
  revert ar hQ g
  generalize elo : t1.intoLo t2.f (t2.f + t2.l) = lo
  generalize ehi : t1.intoHi t2.f (t2.f + t2.l) = hi
  intro hQ ar g
  refine ⟨_, rfl, _, t2, rfl, h2, _, rfl, iteF ⟨_, rfl, a, dx, _, rfl, ha, rfl, _, rfl, t2, h2, _, rfl, t2, h2, _, rfl, t2, h2, _, _, rfl, rfl, _, t1, _, _, rfl, h1, fun p hp => ?_⟩⟩
  rw [elo, ehi]
  have s1 : Same H (upd H p (.tup [V.int lo, V.int hi])) := same_upd hp
  have hp1 : (upd H p (.tup [V.int lo, V.int hi])) p = some (.tup [V.int lo, V.int hi]) := upd_same
  revert s1 hp1
  generalize upd H p (.tup [V.int lo, V.int hi]) = H1
  intro s1 hp1
  have ha := s1 _ _ ha
  have hb := s1 _ _ hb
  have h1 := h1.mono s1
  have h2 := h2.mono s1
  refine ⟨p, _, rfl, .of hp1, rfl, _, _, rfl, _, _, rfl, rfl, ?_⟩
  refine ⟨_, rfl, _, rfl, _, _, rfl, rfl, _, rfl, ?_⟩
  rw [decide_eq_false (show ¬ (hi ≤ lo) by omega)]
  refine iteF ⟨_, rfl, _, rfl, _, _, rfl, rfl, by show 2 ≤ sizeLine; decide, fun q hq => ?_⟩
  have s2 : Same H1 (upd H1 q (.tup [V.int lo, V.int (hi - 1)])) := same_upd hq
  have hq1 : (upd H1 q (.tup [V.int lo, V.int (hi - 1)])) q = some (.tup [V.int lo, V.int (hi - 1)]) := upd_same
  revert s2 hq1
  generalize upd H1 q (.tup [V.int lo, V.int (hi - 1)]) = H2
  intro s2 hq1
  have ha := s2 _ _ ha
  have hb := s2 _ _ hb
  have h1 := h1.mono s2
  have h2 := h2.mono s2
  refine ⟨q, rfl, ⟨_, .of hq1⟩, fun D hD => ?_⟩
  refine lc_tupM (ptF t1 t2) (.of hq1) hD (by show 2 ≤ sizeLine; decide) (fun x => rfl) (fun x hx ys Q' q' => ?_) ?_
  · have hz : ∃ z, x = V.int z := by
      rcases List.mem_cons.mp hx with e | hx
      · exact ⟨_, e⟩
      · rcases List.mem_cons.mp hx with e | hx
        · exact ⟨_, e⟩
        · cases hx
    obtain ⟨z, rfl⟩ := hz
    have s3 : Same H2 (upd H2 D (.lst ys)) := same_upd hD
    refine ⟨_, rfl, b, dy, _, rfl, s3 _ _ hb, rfl, _, rfl, a, dx, _, rfl, s3 _ _ ha, rfl, _, rfl, _, t1, _, rfl, h1.mono s3, ?_⟩
    exact ⟨_, t2, _, rfl, h2.mono s3, q'⟩
  · have s3 : Same H2 (upd H2 D (.lst ([V.int lo, V.int (hi - 1)].map (ptF t1 t2)))) := same_upd hD
    have hD1 : (upd H2 D (.lst ([V.int lo, V.int (hi - 1)].map (ptF t1 t2)))) D = some (.lst ([t2.par (t1.par lo), t2.par (t1.par (hi - 1))].map V.int)) := upd_same
    revert s3 hD1
    generalize upd H2 D (.lst ([V.int lo, V.int (hi - 1)].map (ptF t1 t2))) = H3
    intro s3 hD1
    refine ⟨_, rfl, D, rfl, ⟨_, .of hD1⟩, fun D2 hD2 => ?_⟩
    have h1 := h1.mono s3
    have h2 := h2.mono s3
    have hb := s3 _ _ hb
    refine lc_listM (fun x => x) (.of hD1) hD2 (by show 2 ≤ sizeLine; decide) (fun x => rfl) (fun x hx ys Q' q' => ?_) ?_
    · obtain ⟨z, _, rfl⟩ := List.mem_map.mp hx
      exact ⟨_, rfl, .inl ⟨_, rfl, q'⟩⟩
    · rw [List.map_id']
      have s4 : Same H3 (upd H3 D2 (.lst ([t2.par (t1.par lo), t2.par (t1.par (hi - 1))].map V.int))) := same_upd hD2
      have hD3 : (upd H3 D2 (.lst ([t2.par (t1.par lo), t2.par (t1.par (hi - 1))].map V.int))) D2 = some (.lst ([t2.par (t1.par lo), t2.par (t1.par (hi - 1))].map V.int)) := upd_same
      revert s4 hD3
      generalize upd H3 D2 (.lst ([t2.par (t1.par lo), t2.par (t1.par (hi - 1))].map V.int)) = H4
      intro s4 hD3
      have h1 := h1.mono s4
      have h2 := h2.mono s4
      have hb := s4 _ _ hb
      refine ⟨D2, _, rfl, .of hD3, by show 0 < 2; decide, fun m hm1 hm2 => ?_⟩
      have em : m = min (t2.par (t1.par lo)) (t2.par (t1.par (hi - 1))) := by
        have a1 := hm2 _ (List.mem_cons_self)
        have a2 := hm2 _ (List.mem_cons_of_mem _ (List.mem_cons_self))
        rcases List.mem_cons.mp hm1 with e | hm1
        · omega
        · rcases List.mem_cons.mp hm1 with e | hm1
          · omega
          · cases hm1
      subst em
      refine ⟨_, rfl, _, h1, _, rfl, _, h2, rfl, _, _, rfl, ?_⟩
      rw [bne_bl]
      refine ⟨_, rfl, _, rfl, _, rfl, _, rfl, _, _, rfl, rfl, _, rfl, b, dy, _, rfl, hb, rfl, _, rfl, t1, h1, _, t2, _, rfl, h2, _, rfl, t1, h1, _, rfl, t2, h2, rfl, ?_⟩
      rw [bne_bl]
      refine ⟨_, rfl, _, _, _, _, _, _, rfl, rfl, ar, fun v H' s5 hv => hQ v H' (s1.trans (s2.trans (s3.trans (s4.trans s5)))) hv⟩
end
end TT

-- W7
set_option Elab.async false
set_option linter.all false
set_option maxRecDepth 100000
set_option maxHeartbeats 4000000
namespace TT
open PySem PySem.Spec PyProof.Rows L2
/-! ### the operators of ties -/
section
variable {X : Cx}
def rInvT (K : Fg) : V → Hp → VK → Prop := fun x H Q => ∃ t, TieAt K H x t ∧ Lad.Ok t ∧ giveT K H Q t.inv
theorem un_inv_tie (c : Env X.K X.mg) (hr : Room 4 X.A) : UnR X (unaryOp .Invert) (rInvT X.K) := by
  intro pins s σ H x v Q I rx ⟨t, ht, ok, q⟩
  refine un_tie (o_invert c) (ok_Tie_invert c).run hr pins s σ H x v Q I rx ?_
  obtain ⟨a, dx, rfl, ha⟩ := ht
  exact ⟨a, dx, _, rfl, ha, _, t, rfl, ⟨a, dx, rfl, ha⟩, ok, q⟩
def rShiftT (K : Fg) : R2 := fun x y H Q => ∃ t u, TieAt K H x t ∧ TieAt K H y u ∧ Lad.Ok t ∧ Lad.Ok u ∧ Lad.JGood t u ∧ giveT K H Q (t.join u)
theorem op_shift_tie (c : Env X.K X.mg) (hr : Room 4 X.A) : OpR X (binaryOp .RShift) (rShiftT X.K) := by
  intro pins s σ H x y v u Q I rx ry ⟨t, t2, ht, hu, ok, ok2, g, q⟩
  refine op_shiftT (o_rshift c) (ok_Tie_rshift c).run hr pins s σ H x y v u Q I rx ry ?_
  obtain ⟨a, dx, rfl, ha⟩ := ht
  obtain ⟨b, dy, rfl, hb⟩ := hu
  exact ⟨a, dx, _, b, dy, _, rfl, rfl, ha, hb, _, _, t, t2, rfl, ⟨a, dx, rfl, ha⟩, ⟨b, dy, rfl, hb⟩, ok, ok2, g, q⟩
def rMulT (K : Fg) : R2 := fun x y H Q => ∃ t m, TieAt K H x t ∧ y = V.int m ∧ Lad.Ok t ∧ Lad.TGood t m ∧ giveT K H Q (t.times m)
theorem op_mul_tie (c : Env X.K X.mg) (hr : Room 4 X.A) : OpR X (binaryOp .Mult) (rMulT X.K) := by
  intro pins s σ H x y v u Q I rx ry ⟨t, m, ht, ey, ok, g, q⟩
  refine op_mulT (o_mul c) (o_mulI c) (ok_Tie_mul c).run hr pins s σ H x y v u Q I rx ry ?_
  obtain ⟨a, dx, rfl, ha⟩ := ht
  subst ey
  exact ⟨a, dx, _, m, rfl, rfl, ha, _, t, m, rfl, ⟨a, dx, rfl, ha⟩, ok, g, q⟩
end
/-! ### links -/
abbrev cL (K : Fg) : Addr := gA "Link" K
def LinkAt (K : Fg) (H : Hp) (v : V) (t : Lad.Ti) : Prop := ∃ a dx vs u, v = .ref a ∧ (H a = some (SlX.SlO a (cL K) dx vs) ∧ H dx = some (.xd [])) ∧ vs[2]? = some (some u) ∧ TieAt K H u t
theorem LinkAt.mono {K : Fg} {H H' : Hp} {v : V} {t : Lad.Ti} (h : LinkAt K H v t) (e : Same H H') : LinkAt K H' v t := by
  obtain ⟨a, dx, vs, u, ev, ⟨h1, h2⟩, h3, h4⟩ := h
  exact ⟨a, dx, vs, u, ev, ⟨e _ _ h1, e _ _ h2⟩, h3, h4.mono e⟩
section
variable {X : Cx}
theorem get_tie (c : Env X.K X.mg) : GetR X "tie" (fun x H Q => ∃ t, LinkAt X.K H x t ∧ ∀ v, TieAt X.K H v t → Q v H) := by
  intro pins σ H s x u b Q I rx ⟨t, ⟨a, dx, vs, u0, ex, h1, h3, h4⟩, q⟩
  subst ex
  cases (show u = Value.ref a from rx)
  exact SlX.getslot_ok I (.inr h1) (sl_Link c) (sl_tie c) h3 fun u' s2 I2 ru => ⟨_, H, I2, ru, q _ h4⟩
end
section
variable {P : Program} {w : World} {K : Fg} {mg : Str → Option Value} {base : Heap}
abbrev n_Link_behind : List Str := ["self"]
abbrev pr_Link_behind : List Str := ["self"]
theorem sc_Link_behind : FnScope n_Link_behind pr_Link_behind (defScope s_Link_behind) := ⟨rfl, rfl, rfl, by decide +kernel, rfl, by decide +kernel, by decide +kernel⟩

def spBehind (K : Fg) : Sp := fun vs H Q _ => ∃ v t, vs = [v] ∧ LinkAt K H v t ∧ Q (V.int (t.s + t.l)) H
theorem ok_Link_behind (c : Env K mg) : Pm P w K mg base 3 (d_Link_behind.at_ K) (spBehind K) := by
  obtain ⟨fd, F⟩ := fd_Link_behind c
  refine .mk0 (F.ok sc_Link_behind (ps := pr_Link_behind) (by intro vs H Q E h; obtain ⟨_, _, rfl, _⟩ := h; rfl) fun cdv A outer s H vs Q E hr h => ?_) (FunD.bindsN F fun _ _ _ _ _ _ us hl => match us, hl with | [_], _ => rfl) F.kp
  obtain ⟨v, t, rfl, ht, hQ⟩ := h
  refine ⟨_, (PSs.nox (pss_one (ps_ret (pe_op op_add (pe_at (get_second c (hr.mono (by decide))) (pe_at (get_tie c) (pv 0))) (pe_at (get_length c (hr.mono (by decide))) (pe_at (get_tie c) (pv 0))))))), ?_⟩
  exact ⟨_, rfl, t, ht, fun v1 h1 => ⟨t, h1, _, rfl, t, ht, fun v2 h2 => ⟨t, h2, _, _, rfl, rfl, hQ⟩⟩⟩
abbrev n_Link_init : List Str := ["self", "tie", "reason", "parents"]
abbrev pr_Link_init : List Str := ["self", "tie", "reason", "parents"]
theorem sc_Link_init : FnScope n_Link_init pr_Link_init (defScope s_Link_init) := ⟨rfl, rfl, rfl, by decide +kernel, rfl, by decide +kernel, by decide +kernel⟩

def spLinkInit (K : Fg) : Sp := fun vs H Q _ => ∃ (x dx : Addr) (v r q : V), vs = [V.ref x, v, r, q] ∧ H x = some (.ins (cL K) dx []) ∧ dx ≠ x ∧ ∀ H' ws, (∀ b, b ≠ x → b ≠ dx → H' b = H b) → H' x = some (SlX.SlO x (cL K) dx ws) → H' dx = some (.xd []) → ws[2]? = some (some v) → Q .non H'
theorem fn_Link_init (c : Env K mg) {fd : FuncData} (F : FunD K d_Link_init.name d_Link_init.qual d_Link_init.params d_Link_init.body d_Link_init.scope (d_Link_init.dv K) (d_Link_init.kw K) (d_Link_init.at_ K) fd) :
    FnOk P w K mg base CX0 1 (d_Link_init.at_ K) fd pr_Link_init (spLinkInit K) := by
  refine F.ok sc_Link_init (by intro vs H Q E h; obtain ⟨_, _, _, _, _, rfl, _⟩ := h; rfl) fun cdv A outer s0 H vs Q E hr h => ?_
  obtain ⟨x, dx, v, r, q, rfl, hx, ne, hQ⟩ := h
  refine ⟨_, (PSs.nox (pss_cons (SlX.ps_sl (pv 0) (pv 1))
    (pss_cons (SlX.ps_sl (pv 0) (pv 2))
    (pss_one (SlX.ps_sl (pv 0) (pv 3)))))), ?_⟩
  refine ⟨_, rfl, _, rfl, x, _, dx, _, _, _, rfl, .inl ⟨hx, rfl⟩, sl_Link c, sl_tie c, ?_⟩
  refine ⟨_, rfl, _, rfl, x, _, dx, _, _, _, rfl, SlX.slH_slt ne, sl_Link c, sl_reason c, ?_⟩
  refine ⟨_, rfl, _, rfl, x, _, dx, _, _, _, rfl, SlX.slH_slt ne, sl_Link c, sl_parents c, ?_⟩
  refine hQ _ _ (fun b h1 h2 => ?_) upd_same (by show upd _ _ _ dx = _; rw [upd_ne ne, upd_same]) ?_
  · rw [SlX.slH_ne h1 h2, SlX.slH_ne h1 h2, SlX.slH_ne h1 h2]
  · exact (SlX.putS_ne (by decide)).mpr ((SlX.putS_ne (by decide)).mpr (SlX.putS_get 2 v []))
theorem ok_Link_init3 (c : Env K mg) : Pm P w K mg base 1 (d_Link_init.at_ K) (spLinkInit K) := by
  obtain ⟨fd, F⟩ := fd_Link_init c
  obtain ⟨ds, hd, hb⟩ := FunD.binds1 F (ps := pr_Link_init) 4 1 (List.cons_ne_nil _ _) rfl fun T kV doc pm an cdv ct us its hl hi => match us, hl, its, hi with | [_, _, _, _], _, [_], _ => ⟨_, rfl, rfl⟩
  refine ⟨(Pm.mkD (fn_Link_init c F) hb hd F.kp).run.imp fun vs H Q E h => ?_, F.kp⟩
  show spLinkInit K (vs ++ []) H Q E
  rw [List.append_nil]
  exact h
theorem ok_Link_init2 (c : Env K mg) : Pm P w K mg base 1 (d_Link_init.at_ K) (fun vs H Q E => ∃ z, spLinkInit K (vs ++ [z]) H Q E ∧ ∀ z', spLinkInit K (vs ++ [z']) H Q E) := by
  obtain ⟨fd, F⟩ := fd_Link_init c
  obtain ⟨ds, hd, hb⟩ := FunD.binds1 F (ps := pr_Link_init) 3 0 (List.cons_ne_nil _ _) rfl fun T kV doc pm an cdv ct us its hl hi => match us, hl, its, hi with | [_, _, _], _, [_], _ => ⟨_, rfl, rfl⟩
  exact ⟨(Pm.mkD (fn_Link_init c F) hb hd F.kp).run.imp fun vs H Q E ⟨_, _, h⟩ => h _, F.kp⟩
end
/-- a new link -/
def giveL (K : Fg) (H : Hp) (Q : VK) (t : Lad.Ti) : Prop := ∀ v H', Same H H' → LinkAt K H' v t → Q v H'
def tNewL3 (K : Fg) (ta : TA) : TE := fun σ H Q => ta σ H fun vs H1 => ∃ v r q t, vs = [v, r, q] ∧ TieAt K H1 v t ∧ giveL K H1 Q t
def tNewL2 (K : Fg) (ta : TA) : TE := fun σ H Q => ta σ H fun vs H1 => ∃ v r t, vs = [v, r] ∧ TieAt K H1 v t ∧ giveL K H1 Q t
theorem link_made {K : Fg} {H H' : Hp} {x dx : Addr} {v : V} {t : Lad.Ti} {ws : List (Option V)} (hx : H x = none) (hd : H dx = none) (ht : TieAt K H v t)
    (fr : ∀ b, b ≠ x → b ≠ dx → H' b = upd (upd H dx (.own x)) x (.ins (cL K) dx []) b) (h1 : H' x = some (SlX.SlO x (cL K) dx ws)) (h2 : H' dx = some (.xd [])) (h3 : ws[2]? = some (some v)) : Same H H' ∧ LinkAt K H' (.ref x) t := by
  have s : Same H H' := fun b o e => by
    have n1 : b ≠ x := ne_of_none e hx
    have n2 : b ≠ dx := ne_of_none e hd
    rw [fr b n1 n2, upd_ne n1, upd_ne n2]
    exact e
  exact ⟨s, x, dx, ws, v, rfl, ⟨h1, h2⟩, h3, ht.mono s⟩
section
variable {X : Cx} {e : Expr} {es : List Expr} {p pos : Pos} {t : TA}
theorem pe_link3 (c : Env X.K X.mg) (hr : Room 2 X.A) (hg : Gl X "Link") (ha : PA X (e :: es) t)
    (he : starEach (e :: es) X.env = (false, eval e X.env) :: starEach es X.env := by rfl) (hpl : (backTo pos (starEach es X.env)).any (·.1) = false := by rfl) : PE X (.Call (.Name "Link" p) (e :: es) [] pos) (tNewL3 X.K t) := by
  refine PEwk (StX.pe_makeR (k_Link c) (ok_Link_init3 (P := X.prog) (w := X.w) (base := X.base) c).run hr hg (g_Link c) pass0 (PAmc ha) (by decide) he hpl) fun σ H Q h => ⟨_, h, fun vs H1 q x dx hx hd ne => ?_⟩
  obtain ⟨v, r, z, u, rfl, ht, q⟩ := q
  refine ⟨x, dx, v, r, z, rfl, upd_same, ne, fun H' ws fr h1 h2 h3 => ?_⟩
  obtain ⟨s, l⟩ := link_made hx hd ht fr h1 h2 h3
  exact ⟨rfl, q _ _ s l⟩
theorem pe_link2 (c : Env X.K X.mg) (hr : Room 2 X.A) (hg : Gl X "Link") (ha : PA X (e :: es) t)
    (he : starEach (e :: es) X.env = (false, eval e X.env) :: starEach es X.env := by rfl) (hpl : (backTo pos (starEach es X.env)).any (·.1) = false := by rfl) : PE X (.Call (.Name "Link" p) (e :: es) [] pos) (tNewL2 X.K t) := by
  refine PEwk (StX.pe_makeR (k_Link c) (ok_Link_init2 (P := X.prog) (w := X.w) (base := X.base) c).run hr hg (g_Link c) pass0 (PAmc ha) (by decide) he hpl) fun σ H Q h => ⟨_, h, fun vs H1 q x dx hx hd ne => ?_⟩
  obtain ⟨v, r, u, rfl, ht, q⟩ := q
  have z : ∀ z, spLinkInit X.K ([V.ref x, v, r] ++ [z]) (upd (upd H1 dx (.own x)) x (.ins (cL X.K) dx [])) (fun v H2 => v = .non ∧ Q (.ref x) H2) E0 := fun z => by
    refine ⟨x, dx, v, r, z, rfl, upd_same, ne, fun H' ws fr h1 h2 h3 => ?_⟩
    obtain ⟨s, l⟩ := link_made hx hd ht fr h1 h2 h3
    exact ⟨rfl, q _ _ s l⟩
  exact ⟨.non, z _, z⟩
theorem get_behind (c : Env X.K X.mg) (hr : Room 4 X.A) : GetR X "behind" (fun x H Q => ∃ t, LinkAt X.K H x t ∧ Q (V.int (t.s + t.l)) H) := by
  intro pins σ H s x u b Q I rx ⟨t, ht, q⟩
  obtain ⟨a, dx, vs, u0, ex, h1, h3, h4⟩ := ht
  subst ex
  cases (show u = Value.ref a from rx)
  exact SlX.getprop_sl (E := E0) I (.inr h1) (sl_Link c) (p_Link_behind c).at_ (p_Link_behind c).get (p_Link_behind c).tak (p_Link_behind c).rec_ (ok_Link_behind (P := X.prog) (w := X.w) (base := X.base) c).run hr (fun _ _ _ _ z => z) ⟨_, t, rfl, ⟨a, dx, vs, u0, rfl, h1, h3, h4⟩, q⟩
end
end TT

-- M16
set_option linter.all false
set_option maxRecDepth 10000
namespace Lad
/-! ### what a reading asks -/
def WayOk (c : Ti) (q : Int) : Prop := TGood c (c.rounds q c.s) ∧ (c.b = false → c.f ≠ c.s → c.f < c.s)
structure PinGood (c t : Ti) : Prop where
  j1 : c.s ≤ t.s → JGood t c
  j2 : c.s ≤ t.s → t.isPin = false → JGood (t.join c) t.inv
structure LinkGood (c t : Ti) : Prop where
  p1 : t.isPin = true → c.s ≤ t.f → WayOk c t.f ∧ JGood (c.way t.f) t ∧ JGood ((c.way t.f).join t) (c.way t.f).inv
  two : t.isPin = false → c.s ≤ t.s → WayOk c t.s ∧ JGood t (c.way t.s).inv
  one : t.isPin = false → c.s ≤ (readTwo c t).f → WayOk c (readTwo c t).f ∧ JGood (readTwo c t).inv (c.way (readTwo c t).f).inv
structure ReadGood (c t : Ti) : Prop where
  pin : c.isPin = true → PinGood c t
  lnk : c.isPin = false → LinkGood c t
theorem way_ok {c : Ti} (h : Ok c) {q : Int} (g : WayOk c q) : Ok (c.way q) := times_ok h g.1
theorem two_ok {c t : Ti} (hc : Ok c) (ht : Ok t) (g : LinkGood c t) (hp : t.isPin = false) : Ok (readTwo c t) := by
  unfold readTwo
  by_cases h : c.s ≤ t.s
  · rw [if_pos h]
    obtain ⟨g1, g2⟩ := g.two hp h
    exact join_ok ht (inv_ok (way_ok hc g1)) g2
  · rw [if_neg h]; exact ht
theorem read_by_ok {c t : Ti} (hc : Ok c) (ht : Ok t) (g : ReadGood c t) : Ok (readBy c t) := by
  unfold readBy
  by_cases hp : c.isPin = true
  · rw [if_pos hp]
    have g := g.pin hp
    unfold readPin
    by_cases h : t.s < c.s
    · rw [if_pos h]; exact ht
    · rw [if_neg h]
      have g1 := join_ok ht hc (g.j1 (by omega))
      by_cases hq : t.isPin = true
      · rw [if_pos hq]; exact g1
      · rw [if_neg hq]
        exact join_ok g1 (inv_ok ht) (g.j2 (by omega) (by simpa using hq))
  · rw [if_neg hp]
    have g := g.lnk (by simpa using hp)
    unfold readLink
    by_cases hq : t.isPin = true
    · rw [if_pos hq]
      by_cases h : t.f < c.s
      · rw [if_pos h]; exact ht
      · rw [if_neg h]
        obtain ⟨g1, g2, g3⟩ := g.p1 hq (by omega)
        exact join_ok (join_ok (way_ok hc g1) ht g2) (inv_ok (way_ok hc g1)) g3
    · rw [if_neg hq]
      have hq : t.isPin = false := by simpa using hq
      have o2 := two_ok hc ht g hq
      unfold readOne
      by_cases h : c.s ≤ (readTwo c t).f
      · rw [if_pos h]
        obtain ⟨g1, g2⟩ := g.one hq h
        exact inv_ok (join_ok (inv_ok o2) (inv_ok (way_ok hc g1)) g2)
      · rw [if_neg h]; exact o2
theorem part_all {t : Ti} (h : Ok t) : t.part 0 t.l = t := by
  rw [part_eq h.l1]
  have e : (if t.b then t.s + t.l - 0 - t.l else t.s + 0) = t.s := by split <;> omega
  rw [e, show t.f + 0 = t.f by omega]
  exact tie_eta h.bb
/-! ### what evened asks -/
theorem cannot_no {x : Int → Int} {t : Ti} (h : Holds x t) (h1 : 1 ≤ t.l) : t.cannot = false := by
  unfold Ti.cannot
  by_cases ho : t.isOne = true
  · rw [if_pos ho]
    cases hd : t.d with
    | true =>
      have hp : t.isPin = true := by unfold Ti.isPin; rw [hd, ho]; rfl
      have r := (holds_pin hp).mp h t.f (Int.le_refl _) (by omega)
      rw [if_pos rfl]
      have : t.a % 2 = 0 := by omega
      rw [this]; rfl
    | false =>
      have r := one_up h1 ho hd h
      rw [r]; rfl
  · rw [if_neg ho]
theorem half_le {t : Ti} (h : Lap t) (h1 : 1 < t.l) : 1 ≤ t.half ∧ t.half ≤ t.l ∧ ((t.f + t.l - t.s) % 2 = 1 → t.half + 1 ≤ t.l) := by
  obtain ⟨a, b, c, d⟩ := h.half h1
  have := h.le
  have := h.lp
  exact ⟨a, by omega, fun _ => by omega⟩
theorem even1_all {t : Ti} (h : Ok t) (hle : t.f ≤ t.s) : ∀ u ∈ evened1 t, Ok u := by
  unfold evened1
  by_cases ho : t.isOne = true
  · rw [if_pos ho]
    split
    · intro u hu; cases List.mem_singleton.mp hu; exact h
    · intro u hu; cases hu
  · rw [if_neg ho]
    by_cases hb : (!t.b || decide (t.f + t.l - t.s ≤ 0)) = true
    · rw [if_pos hb]
      intro u hu; cases List.mem_singleton.mp hu; exact h
    · rw [if_neg hb]
      have hb2 : t.b = true ∧ 0 < t.f + t.l - t.s := by
        cases q : t.b <;> simp [q] at hb
        exact ⟨rfl, by omega⟩
      have lp : Lap t := ⟨hb2.1, hle, by omega⟩
      obtain ⟨c1, c2, c3⟩ := half_le lp (h.bb hb2.1)
      split
      · rename_i hd
        have e : (t.f + t.l - t.s) % 2 = 1 := by
          have := (Bool.and_eq_true_iff.mp hd).2
          exact beq_iff_eq.mp this
        intro u hu
        rcases List.mem_cons.mp hu with rfl | hu
        · exact part_ok h (Int.le_refl _) c1 (by omega)
        · cases List.mem_singleton.mp hu
          exact part_ok h (by omega) (Int.le_refl _) (c3 e)
      · intro u hu; cases List.mem_singleton.mp hu
        exact part_ok h (Int.le_refl _) c1 (by omega)
theorem even_all {t : Ti} (h : Ok t) : ∀ u ∈ evened t, Ok u := by
  unfold evened
  by_cases hs : t.s < t.f
  · rw [if_pos hs]; exact even1_all (inv_ok h) (by show t.s ≤ t.f; omega)
  · rw [if_neg hs]; exact even1_all h (by omega)
end Lad

-- W8
set_option Elab.async false
set_option linter.all false
set_option maxRecDepth 100000
set_option maxHeartbeats 4000000
namespace TT
open PySem PySem.Spec PyProof.Rows L2
section
variable {P : Program} {w : World} {K : Fg} {mg : Str → Option Value} {base : Heap}
theorem ne_int (i j : Int) : (!decide (V.int i = V.int j)) = (i != j) := by rw [dec_int]; rfl
abbrev n_is_one_part : List Str := ["tie"]
abbrev pr_is_one_part : List Str := ["tie"]
theorem sc_is_one_part : FnScope n_is_one_part pr_is_one_part (defScope s_is_one_part) := ⟨rfl, rfl, rfl, by decide +kernel, rfl, by decide +kernel, by decide +kernel⟩

def spOne (K : Fg) : Sp := fun vs H Q _ => ∃ v t, vs = [v] ∧ TieAt K H v t ∧ Q (V.bl t.isOne) H
theorem ok_is_one_part (c : Env K mg) : Pm P w K mg base 3 (d_is_one_part.at_ K) (spOne K) := by
  obtain ⟨fd, F⟩ := fd_is_one_part c
  refine .mk0 (F.ok sc_is_one_part (ps := pr_is_one_part) (by intro vs H Q E h; obtain ⟨_, _, rfl, _⟩ := h; rfl) fun cdv A outer s H vs Q E hr h => ?_) (FunD.bindsN F fun _ _ _ _ _ _ us hl => match us, hl with | [_], _ => rfl) F.kp
  obtain ⟨v, t, rfl, ht, hQ⟩ := h
  refine ⟨_, (PSs.nox (pss_one (ps_ret (pe_and (pe_cmpR op_eq (pe_at (get_first c (hr.mono (by decide))) (pv 0)) (pe_at (get_second c (hr.mono (by decide))) (pv 0)) (nomark _)) (pe_one (pe_not (pe_at (get_backward c (hr.mono (by decide))) (pv 0)))))))), ?_⟩
  refine ⟨_, rfl, t, ht, _, rfl, t, ht, rfl, _, rfl, ?_⟩
  by_cases h : t.f = t.s
  · rw [decide_eq_true (show V.int t.f = V.int t.s by rw [h])]
    have e : t.isOne = !t.b := by unfold Lad.Ti.isOne; rw [decide_eq_true h, Bool.true_and]
    rw [e] at hQ
    exact iteT ⟨_, rfl, t, ht, _, rfl, hQ⟩
  · rw [decide_eq_false (show ¬ V.int t.f = V.int t.s from fun q => h (V.int.inj q))]
    have e : t.isOne = false := by unfold Lad.Ti.isOne; rw [decide_eq_false h, Bool.false_and]
    rw [e] at hQ
    exact iteF hQ
abbrev n_cannot_be : List Str := ["tie"]
abbrev pr_cannot_be : List Str := ["tie"]
theorem sc_cannot_be : FnScope n_cannot_be pr_cannot_be (defScope s_cannot_be) := ⟨rfl, rfl, rfl, by decide +kernel, rfl, by decide +kernel, by decide +kernel⟩

def spCannot (K : Fg) : Sp := fun vs H Q _ => ∃ v t, vs = [v] ∧ TieAt K H v t ∧ Q (V.bl t.cannot) H
theorem ok_cannot_be (c : Env K mg) : Pm P w K mg base 4 (d_cannot_be.at_ K) (spCannot K) := by
  obtain ⟨fd, F⟩ := fd_cannot_be c
  refine .mk0 (F.ok sc_cannot_be (ps := pr_cannot_be) (by intro vs H Q E h; obtain ⟨_, _, rfl, _⟩ := h; rfl) fun cdv A outer s H vs Q E hr h => ?_) (FunD.bindsN F fun _ _ _ _ _ _ us hl => match us, hl with | [_], _ => rfl) F.kp
  obtain ⟨v, t, rfl, ht, hQ⟩ := h
  refine ⟨_, (PSs.nox (pss_cons (ps_if (pt_not (pt_val (pe_callF (ok_is_one_part c) (hr.mono (by decide)) rfl (g_is_one_part c) (pa_cons (pv 0) pa_nil)))) (pss_one (ps_ret pe_bl)) pss_nil)
    (pss_one (ps_ret (pe_ifExp (pt_val (pe_at (get_down c (hr.mono (by decide))) (pv 0))) (pe_cmpR op_eq (pe_op op_mod (pe_at (get_amount c (hr.mono (by decide))) (pv 0)) pe_int) pe_int (nomark _)) (pe_cmpR op_ne (pe_at (get_amount c (hr.mono (by decide))) (pv 0)) pe_int (nomark _))))))), ?_⟩
  unfold Lad.Ti.cannot at hQ
  refine ⟨_, rfl, _, t, rfl, ht, _, rfl, ?_⟩
  cases ho : t.isOne with
  | false =>
    rw [ho] at hQ
    exact iteT hQ
  | true =>
    rw [ho] at hQ
    refine iteF ⟨_, rfl, t, ht, _, rfl, ite2 (fun hd => ?_) (fun hd => ?_)⟩
    · rw [if_pos rfl, if_pos hd] at hQ
      refine ⟨_, rfl, t, ht, _, _, rfl, rfl, (by show (0 : Int) < 2; decide), rfl, ?_⟩
      rw [dec_int]
      exact hQ
    · rw [if_pos rfl, if_neg hd] at hQ
      refine ⟨_, rfl, t, ht, rfl, ?_⟩
      rw [ne_int]
      exact hQ
abbrev n_is_pin : List Str := ["tie"]
abbrev pr_is_pin : List Str := ["tie"]
theorem sc_is_pin : FnScope n_is_pin pr_is_pin (defScope s_is_pin) := ⟨rfl, rfl, rfl, by decide +kernel, rfl, by decide +kernel, by decide +kernel⟩

def spPin (K : Fg) : Sp := fun vs H Q _ => ∃ v t, vs = [v] ∧ TieAt K H v t ∧ Q (V.bl t.isPin) H
theorem ok_is_pin (c : Env K mg) : Pm P w K mg base 4 (d_is_pin.at_ K) (spPin K) := by
  obtain ⟨fd, F⟩ := fd_is_pin c
  refine .mk0 (F.ok sc_is_pin (ps := pr_is_pin) (by intro vs H Q E h; obtain ⟨_, _, rfl, _⟩ := h; rfl) fun cdv A outer s H vs Q E hr h => ?_) (FunD.bindsN F fun _ _ _ _ _ _ us hl => match us, hl with | [_], _ => rfl) F.kp
  obtain ⟨v, t, rfl, ht, hQ⟩ := h
  refine ⟨_, (PSs.nox (pss_one (ps_ret (pe_and (pe_at (get_down c (hr.mono (by decide))) (pv 0)) (pe_one (pe_callF (ok_is_one_part c) (hr.mono (by decide)) rfl (g_is_one_part c) (pa_cons (pv 0) pa_nil))))))), ?_⟩
  unfold Lad.Ti.isPin at hQ
  refine ⟨_, rfl, t, ht, _, rfl, ?_⟩
  cases hd : t.d with
  | true => rw [hd, Bool.true_and] at hQ; exact iteT ⟨_, rfl, _, t, rfl, ht, hQ⟩
  | false => rw [hd, Bool.false_and] at hQ; exact iteF hQ
abbrev n_rounds : List Str := ["tie", "place", "low"]
abbrev pr_rounds : List Str := ["tie", "place", "low"]
theorem sc_rounds : FnScope n_rounds pr_rounds (defScope s_rounds) := ⟨rfl, rfl, rfl, by decide +kernel, rfl, by decide +kernel, by decide +kernel⟩

def spRounds (K : Fg) : Sp := fun vs H Q _ => ∃ v t q lo, vs = [v, V.int q, V.int lo] ∧ TieAt K H v t ∧ Lad.Ok t ∧ (t.b = false → t.f ≠ t.s → t.f < t.s) ∧ Q (V.int (t.rounds q lo)) H
theorem ok_rounds (c : Env K mg) : Pm P w K mg base 3 (d_rounds.at_ K) (spRounds K) := by
  obtain ⟨fd, F⟩ := fd_rounds c
  refine .mk0 (F.ok sc_rounds (ps := pr_rounds) (by intro vs H Q E h; obtain ⟨_, _, _, _, rfl, _⟩ := h; rfl) fun cdv A outer s H vs Q E hr h => ?_) (FunD.bindsN F fun _ _ _ _ _ _ us hl => match us, hl with | [_, _, _], _ => rfl) F.kp
  obtain ⟨v, t, q, lo, rfl, ht, ok, hs, hQ⟩ := h
  refine ⟨_, (PSs.nox (pss_one (ps_ret (pe_ifExp (PW.pt (pw_or (pt_val (pe_at (get_backward c (hr.mono (by decide))) (pv 0))) (pw_or1 (pt_cmpR op_eq (pe_at (get_first c (hr.mono (by decide))) (pv 0)) (pe_at (get_second c (hr.mono (by decide))) (pv 0)) (nomark _))))) pe_int (pe_op op_add (pe_op op_fdivW (pe_op op_sub (pv 1) (pv 2)) (pe_op op_sub (pe_at (get_second c (hr.mono (by decide))) (pv 0)) (pe_at (get_first c (hr.mono (by decide))) (pv 0)))) pe_int))))), ?_⟩
  unfold Lad.Ti.rounds at hQ
  refine ⟨_, rfl, t, ht, _, rfl, ?_⟩
  cases hb : t.b with
  | true => rw [hb, Bool.true_or, if_pos rfl] at hQ; exact iteT hQ
  | false =>
    rw [hb, Bool.false_or] at hQ
    refine iteF ⟨_, rfl, t, ht, _, rfl, t, ht, rfl, _, rfl, ?_⟩
    by_cases h : t.f = t.s
    · rw [decide_eq_true (show V.int t.f = V.int t.s by rw [h])]
      rw [decide_eq_true h, if_pos rfl] at hQ
      exact iteT hQ
    · rw [decide_eq_false (show ¬ V.int t.f = V.int t.s from fun q => h (V.int.inj q))]
      rw [decide_eq_false h, if_neg Bool.false_ne_true] at hQ
      have p := hs hb h
      have := ok.f0
      have := ok.se
      have := ok.l1
      refine iteF ⟨_, rfl, _, rfl, _, _, rfl, rfl, _, rfl, t, ht, _, rfl, t, ht, _, _, rfl, rfl, _, _, rfl, rfl, wide_div (b := 200) (by omega) (by omega) (by decide) (by decide), _, _, rfl, rfl, hQ⟩
abbrev n_back : List Str := ["link"]
abbrev pr_back : List Str := ["link"]
theorem sc_back : FnScope n_back pr_back (defScope s_back) := ⟨rfl, rfl, rfl, by decide +kernel, rfl, by decide +kernel, by decide +kernel⟩

def spBack (K : Fg) : Sp := fun vs H Q _ => ∃ v t, vs = [v] ∧ LinkAt K H v t ∧ Lad.Ok t ∧ giveL K H Q t.inv
theorem ok_back (c : Env K mg) : Pm P w K mg base 5 (d_back.at_ K) (spBack K) := by
  obtain ⟨fd, F⟩ := fd_back c
  refine .mk0 (F.ok sc_back (ps := pr_back) (by intro vs H Q E h; obtain ⟨_, _, rfl, _⟩ := h; rfl) fun cdv A outer s H vs Q E hr h => ?_) (FunD.bindsN F fun _ _ _ _ _ _ us hl => match us, hl with | [_], _ => rfl) F.kp
  obtain ⟨v, t, rfl, ht, ok, hQ⟩ := h
  refine ⟨_, (PSs.nox (pss_one (ps_ret (pe_link3 c (hr.mono (by decide)) rfl (pa_cons (pe_un (un_inv_tie c (hr.mono (by decide))) (pe_at (get_tie c) (pv 0))) (pa_cons (pe_tup (pa_cons (pe_glob (v := V.str "back") rfl (z_BACK_ladder c).choose_spec ⟨_, rfl⟩) pa_nil)) (pa_cons (pe_tup (pa_cons (pv 0) pa_nil)) pa_nil))))))), ?_⟩
  refine ⟨_, rfl, t, ht, fun w hw => ⟨t, hw, ok, fun w2 H2 s2 hw2 => ?_⟩⟩
  refine ⟨by show 1 ≤ sizeLine; decide, fun p hp => ⟨_, rfl, by show 1 ≤ sizeLine; decide, fun q hq => ?_⟩⟩
  exact ⟨_, _, _, _, rfl, hw2.mono ((same_upd hp).trans (same_upd hq)), fun v H' s5 hv => hQ v H' (s2.trans ((same_upd hp).trans ((same_upd hq).trans s5))) hv⟩
abbrev n_joined : List Str := ["one", "other"]
abbrev pr_joined : List Str := ["one", "other"]
theorem sc_joined : FnScope n_joined pr_joined (defScope s_joined) := ⟨rfl, rfl, rfl, by decide +kernel, rfl, by decide +kernel, by decide +kernel⟩

def spJoined (K : Fg) : Sp := fun vs H Q _ => ∃ v u t1 t2, vs = [v, u] ∧ LinkAt K H v t1 ∧ LinkAt K H u t2 ∧ Lad.Ok t1 ∧ Lad.Ok t2 ∧ Lad.JGood t1 t2 ∧ giveL K H Q (t1.join t2)
theorem ok_joined (c : Env K mg) : Pm P w K mg base 5 (d_joined.at_ K) (spJoined K) := by
  obtain ⟨fd, F⟩ := fd_joined c
  refine .mk0 (F.ok sc_joined (ps := pr_joined) (by intro vs H Q E h; obtain ⟨_, _, _, _, rfl, _⟩ := h; rfl) fun cdv A outer s H vs Q E hr h => ?_) (FunD.bindsN F fun _ _ _ _ _ _ us hl => match us, hl with | [_, _], _ => rfl) F.kp
  obtain ⟨v, u, t1, t2, rfl, h1, h2, k1, k2, g, hQ⟩ := h
  refine ⟨_, (PSs.nox (pss_one (ps_ret (pe_link3 c (hr.mono (by decide)) rfl (pa_cons (pe_op (op_shift_tie c (hr.mono (by decide))) (pe_at (get_tie c) (pv 0)) (pe_at (get_tie c) (pv 1))) (pa_cons (pe_tup (pa_cons (pe_glob (v := V.str "joined") rfl (z_JOINED c).choose_spec ⟨_, rfl⟩) pa_nil)) (pa_cons (pe_tup (pa_cons (pv 0) (pa_cons (pv 1) pa_nil))) pa_nil))))))), ?_⟩
  refine ⟨_, rfl, t1, h1, fun w hw => ⟨_, rfl, t2, h2, fun z hz => ⟨t1, t2, hw, hz, k1, k2, g, fun w2 H2 s2 hw2 => ?_⟩⟩⟩
  refine ⟨by show 1 ≤ sizeLine; decide, fun p hp => ⟨_, rfl, _, rfl, by show 2 ≤ sizeLine; decide, fun q hq => ?_⟩⟩
  exact ⟨_, _, _, _, rfl, hw2.mono ((same_upd hp).trans (same_upd hq)), fun v H' s5 hv => hQ v H' (s2.trans ((same_upd hp).trans ((same_upd hq).trans s5))) hv⟩
abbrev n_times : List Str := ["link", "many"]
abbrev pr_times : List Str := ["link", "many"]
theorem sc_times : FnScope n_times pr_times (defScope s_times) := ⟨rfl, rfl, rfl, by decide +kernel, rfl, by decide +kernel, by decide +kernel⟩

def spTimes (K : Fg) : Sp := fun vs H Q _ => ∃ v t m, vs = [v, V.int m] ∧ LinkAt K H v t ∧ Lad.Ok t ∧ Lad.TGood t m ∧ giveL K H Q (t.times m)
theorem ok_times (c : Env K mg) : Pm P w K mg base 5 (d_times.at_ K) (spTimes K) := by
  obtain ⟨fd, F⟩ := fd_times c
  refine .mk0 (F.ok sc_times (ps := pr_times) (by intro vs H Q E h; obtain ⟨_, _, _, rfl, _⟩ := h; rfl) fun cdv A outer s H vs Q E hr h => ?_) (FunD.bindsN F fun _ _ _ _ _ _ us hl => match us, hl with | [_, _], _ => rfl) F.kp
  obtain ⟨v, t, m, rfl, ht, ok, g, hQ⟩ := h
  refine ⟨_, (PSs.nox (pss_one (ps_ret (pe_ifExp (pt_cmpR op_eq (pv 1) pe_int (nomark _)) (pv 0) (pe_link3 c (hr.mono (by decide)) rfl (pa_cons (pe_op (op_mul_tie c (hr.mono (by decide))) (pe_at (get_tie c) (pv 0)) (pv 1)) (pa_cons (pe_tup (pa_cons (pe_glob (v := V.str "times") rfl (z_TIMES c).choose_spec ⟨_, rfl⟩) (pa_cons (pv 1) pa_nil))) (pa_cons (pe_tup (pa_cons (pv 0) pa_nil)) pa_nil)))))))), ?_⟩
  refine ⟨_, rfl, rfl, _, rfl, ?_⟩
  rw [dec_int]
  by_cases hm : m = 1
  · subst hm
    exact iteT ⟨_, rfl, hQ _ _ (Same.refl _) (by unfold Lad.Ti.times; rw [if_pos rfl]; exact ht)⟩
  · rw [beq_eq_false_iff_ne.mpr hm]
    refine iteF ⟨_, rfl, t, ht, fun w hw => ⟨_, rfl, t, m, hw, rfl, ok, g, fun w2 H2 s2 hw2 => ?_⟩⟩
    refine ⟨_, rfl, by show 2 ≤ sizeLine; decide, fun p hp => ⟨_, rfl, by show 1 ≤ sizeLine; decide, fun q hq => ?_⟩⟩
    exact ⟨_, _, _, _, rfl, hw2.mono ((same_upd hp).trans (same_upd hq)), fun v H' s5 hv => hQ v H' (s2.trans ((same_upd hp).trans ((same_upd hq).trans s5))) hv⟩
abbrev n_part : List Str := ["link", "start", "length"]
abbrev pr_part : List Str := ["link", "start", "length"]
theorem sc_part : FnScope n_part pr_part (defScope s_part) := ⟨rfl, rfl, rfl, by decide +kernel, rfl, by decide +kernel, by decide +kernel⟩

def spPartL (K : Fg) : Sp := fun vs H Q _ => ∃ v t st n, vs = [v, V.int st, V.int n] ∧ LinkAt K H v t ∧ Lad.Ok t ∧ 0 ≤ st ∧ 1 ≤ n ∧ st + n ≤ t.l ∧ giveL K H Q (t.part st n)
theorem ok_part (c : Env K mg) : Pm P w K mg base 6 (d_part.at_ K) (spPartL K) := by
  obtain ⟨fd, F⟩ := fd_part c
  refine .mk0 (F.ok sc_part (ps := pr_part) (by intro vs H Q E h; obtain ⟨_, _, _, _, rfl, _⟩ := h; rfl) fun cdv A outer s H vs Q E hr h => ?_) (FunD.bindsN F fun _ _ _ _ _ _ us hl => match us, hl with | [_, _, _], _ => rfl) F.kp
  obtain ⟨v, t, st, n, rfl, ht, ok, h0, h1, h2, hQ⟩ := h
  refine ⟨_, (PSs.nox (pss_cons (ps_if (PW.pt (pw_and (pt_cmpR op_eq (pv 1) pe_int (nomark _)) (pw_and1 (pt_cmpR op_eq (pv 2) (pe_at (get_length c (hr.mono (by decide))) (pe_at (get_tie c) (pv 0))) (nomark _))))) (pss_one (ps_ret (pv 0))) pss_nil)
    (pss_one (ps_ret (pe_link3 c (hr.mono (by decide)) rfl (pa_cons (pe_methR (pe_at (get_tie c) (pv 0)) (c_Tie c) (m_Tie_part c) (ok_Tie_part c).run (hr.mono (by decide)) pass0 (pa_cons (pv 1) (pa_cons (pv 2) pa_nil))) (pa_cons (pe_tup (pa_cons (pe_glob (v := V.str "part") rfl (z_PART c).choose_spec ⟨_, rfl⟩) (pa_cons (pv 1) (pa_cons (pv 2) pa_nil)))) (pa_cons (pe_tup (pa_cons (pv 0) pa_nil)) pa_nil)))))))), ?_⟩
  refine ⟨_, rfl, rfl, _, rfl, ?_⟩
  rw [dec_int]
  by_cases e0 : st = 0
  · subst e0
    refine iteT ⟨_, rfl, _, rfl, t, ht, fun w hw => ⟨t, hw, rfl, _, rfl, ?_⟩⟩
    rw [dec_int]
    by_cases e1 : n = t.l
    · subst e1
      rw [beq_self_eq_true]
      refine iteT ⟨_, rfl, hQ _ _ (Same.refl _) ?_⟩
      rw [Lad.part_all ok]
      exact ht
    · rw [beq_eq_false_iff_ne.mpr e1]
      refine iteF ⟨_, rfl, t, ht, fun w hw => ?_⟩
      obtain ⟨a, dx, rfl, ha⟩ := hw
      refine ⟨a, dx, _, rfl, ha, rfl, _, rfl, _, rfl, _, t, _, _, rfl, ⟨a, dx, rfl, ha⟩, ok, h0, h1, h2, fun w2 H2 s2 hw2 => ?_⟩
      refine ⟨_, rfl, _, rfl, by show 3 ≤ sizeLine; decide, fun p hp => ⟨_, rfl, by show 1 ≤ sizeLine; decide, fun q hq => ?_⟩⟩
      exact ⟨_, _, _, _, rfl, hw2.mono ((same_upd hp).trans (same_upd hq)), fun v H' s5 hv => hQ v H' (s2.trans ((same_upd hp).trans ((same_upd hq).trans s5))) hv⟩
  · rw [beq_eq_false_iff_ne.mpr e0]
    refine iteF (iteF ⟨_, rfl, t, ht, fun w hw => ?_⟩)
    obtain ⟨a, dx, rfl, ha⟩ := hw
    refine ⟨a, dx, _, rfl, ha, rfl, _, rfl, _, rfl, _, t, _, _, rfl, ⟨a, dx, rfl, ha⟩, ok, h0, h1, h2, fun w2 H2 s2 hw2 => ?_⟩
    refine ⟨_, rfl, _, rfl, by show 3 ≤ sizeLine; decide, fun p hp => ⟨_, rfl, by show 1 ≤ sizeLine; decide, fun q hq => ?_⟩⟩
    exact ⟨_, _, _, _, rfl, hw2.mono ((same_upd hp).trans (same_upd hq)), fun v H' s5 hv => hQ v H' (s2.trans ((same_upd hp).trans ((same_upd hq).trans s5))) hv⟩
end
end TT

-- W9
set_option Elab.async false
set_option linter.all false
set_option maxRecDepth 100000
set_option maxHeartbeats 4000000
namespace TT
open PySem PySem.Spec PyProof.Rows L2
section
variable {P : Program} {w : World} {K : Fg} {mg : Str → Option Value} {base : Heap}
abbrev n_way_to : List Str := ["cutter", "place"]
abbrev pr_way_to : List Str := ["cutter", "place"]
theorem sc_way_to : FnScope n_way_to pr_way_to (defScope s_way_to) := ⟨rfl, rfl, rfl, by decide +kernel, rfl, by decide +kernel, by decide +kernel⟩

def spWay (K : Fg) : Sp := fun vs H Q _ => ∃ v t q, vs = [v, V.int q] ∧ LinkAt K H v t ∧ Lad.Ok t ∧ Lad.WayOk t q ∧ giveL K H Q (t.way q)
theorem ok_way_to (c : Env K mg) : Pm P w K mg base 6 (d_way_to.at_ K) (spWay K) := by
  obtain ⟨fd, F⟩ := fd_way_to c
  refine .mk0 (F.ok sc_way_to (ps := pr_way_to) (by intro vs H Q E h; obtain ⟨_, _, _, rfl, _⟩ := h; rfl) fun cdv A outer s H vs Q E hr h => ?_) (FunD.bindsN F fun _ _ _ _ _ _ us hl => match us, hl with | [_, _], _ => rfl) F.kp
  obtain ⟨v, t, q, rfl, ht, ok, g, hQ⟩ := h
  refine ⟨_, (PSs.nox (pss_one (ps_ret (pe_callF (ok_times c) (hr.mono (by decide)) rfl (g_times c) (pa_cons (pv 0) (pa_cons (pe_callF (ok_rounds c) (hr.mono (by decide)) rfl (g_rounds c) (pa_cons (pe_at (get_tie c) (pv 0)) (pa_cons (pv 1) (pa_cons (pe_at (get_second c (hr.mono (by decide))) (pe_at (get_tie c) (pv 0))) pa_nil)))) pa_nil)))))), ?_⟩
  exact ⟨_, rfl, _, rfl, t, ht, fun w hw => ⟨_, rfl, _, rfl, t, ht, fun w2 hw2 => ⟨t, hw2, w, t, q, t.s, rfl, hw, ok, g.2, _, t, _, rfl, ht, ok, g.1, hQ⟩⟩⟩
abbrev n_read_by_pin : List Str := ["cutter", "link"]
abbrev pr_read_by_pin : List Str := ["cutter", "link"]
theorem sc_read_by_pin : FnScope n_read_by_pin pr_read_by_pin (defScope s_read_by_pin) := ⟨rfl, rfl, rfl, by decide +kernel, rfl, by decide +kernel, by decide +kernel⟩

def spRPin (K : Fg) : Sp := fun vs H Q _ => ∃ v u c t, vs = [v, u] ∧ LinkAt K H v c ∧ LinkAt K H u t ∧ Lad.Ok c ∧ Lad.Ok t ∧ Lad.PinGood c t ∧ giveL K H Q (Lad.readPin c t)
theorem ok_read_by_pin (c : Env K mg) : Pm P w K mg base 6 (d_read_by_pin.at_ K) (spRPin K) := by
  obtain ⟨fd, F⟩ := fd_read_by_pin c
  refine .mk0 (F.ok sc_read_by_pin (ps := pr_read_by_pin) (by intro vs H Q E h; obtain ⟨_, _, _, _, rfl, _⟩ := h; rfl) fun cdv A outer s H vs Q E hr h => ?_) (FunD.bindsN F fun _ _ _ _ _ _ us hl => match us, hl with | [_, _], _ => rfl) F.kp
  obtain ⟨v, u, k, t, rfl, hk, ht, ok1, ok2, g, hQ⟩ := h
  refine ⟨_, (PSs.nox (pss_cons (ps_if (pt_cmpR op_lt (pe_at (get_second c (hr.mono (by decide))) (pe_at (get_tie c) (pv 1))) (pe_at (get_second c (hr.mono (by decide))) (pe_at (get_tie c) (pv 0))) (nomark _)) (pss_one (ps_ret (pv 1))) pss_nil)
    (pss_cons (ps_if (pt_val (pe_callF (ok_is_pin c) (hr.mono (by decide)) rfl (g_is_pin c) (pa_cons (pe_at (get_tie c) (pv 1)) pa_nil))) (pss_one (ps_ret (pe_callF (ok_joined c) (hr.mono (by decide)) rfl (g_joined c) (pa_cons (pv 1) (pa_cons (pv 0) pa_nil))))) pss_nil)
    (pss_one (ps_ret (pe_callF (ok_joined c) (hr.mono (by decide)) rfl (g_joined c) (pa_cons (pe_callF (ok_joined c) (hr.mono (by decide)) rfl (g_joined c) (pa_cons (pv 1) (pa_cons (pv 0) pa_nil))) (pa_cons (pe_callF (ok_back c) (hr.mono (by decide)) rfl (g_back c) (pa_cons (pv 1) pa_nil)) pa_nil)))))))), ?_⟩
  unfold Lad.readPin at hQ
  refine ⟨_, rfl, t, ht, fun w hw => ⟨t, hw, _, rfl, k, hk, fun w2 hw2 => ⟨k, hw2, _, _, rfl, rfl, _, rfl, ?_⟩⟩⟩
  by_cases h1 : t.s < k.s
  · rw [decide_eq_true h1]
    rw [if_pos h1] at hQ
    exact iteT ⟨_, rfl, hQ _ _ (Same.refl _) ht⟩
  · rw [decide_eq_false h1]
    rw [if_neg h1] at hQ
    refine iteF ⟨_, rfl, t, ht, fun w hw => ⟨w, t, rfl, hw, _, rfl, ?_⟩⟩
    have j1 := g.j1 (by omega)
    cases h2 : t.isPin with
    | true =>
      rw [if_pos h2] at hQ
      exact iteT ⟨_, rfl, _, rfl, _, _, t, k, rfl, ht, hk, ok2, ok1, j1, hQ⟩
    | false =>
      rw [if_neg (by rw [h2]; exact Bool.false_ne_true)] at hQ
      have j2 := g.j2 (by omega) h2
      refine iteF ⟨_, rfl, _, rfl, _, _, t, k, rfl, ht, hk, ok2, ok1, j1, fun v1 H1 s1 l1 => ⟨_, rfl, _, t, rfl, ht.mono s1, ok2, fun v2 H2 s2 l2 => ?_⟩⟩
      exact ⟨_, _, _, _, rfl, l1.mono s2, l2, Lad.join_ok ok2 ok1 j1, Lad.inv_ok ok2, j2, fun v3 H3 s3 l3 => hQ _ _ (s1.trans (s2.trans s3)) l3⟩
abbrev n_read_by_link : List Str := ["cutter", "link", "low", "way"]
abbrev pr_read_by_link : List Str := ["cutter", "link"]
theorem sc_read_by_link : FnScope n_read_by_link pr_read_by_link (defScope s_read_by_link) := ⟨rfl, rfl, rfl, by decide +kernel, rfl, by decide +kernel, by decide +kernel⟩

def spRLink (K : Fg) : Sp := fun vs H Q _ => ∃ v u c t, vs = [v, u] ∧ LinkAt K H v c ∧ LinkAt K H u t ∧ Lad.Ok c ∧ Lad.Ok t ∧ Lad.LinkGood c t ∧ giveL K H Q (Lad.readLink c t)
theorem ok_read_by_link (c : Env K mg) : Pm P w K mg base 7 (d_read_by_link.at_ K) (spRLink K) := by
  obtain ⟨fd, F⟩ := fd_read_by_link c
  refine .mk0 (F.ok sc_read_by_link (ps := pr_read_by_link) (by intro vs H Q E h; obtain ⟨_, _, _, _, rfl, _⟩ := h; rfl) fun cdv A outer s H vs Q E hr h => ?_) (FunD.bindsN F fun _ _ _ _ _ _ us hl => match us, hl with | [_, _], _ => rfl) F.kp
  obtain ⟨v, u, k, t, rfl, hk, ht, ok1, ok2, g, hQ⟩ := h
  refine ⟨_, (PSs.nox (pss_cons (ps_set (i := 2) sc_read_by_link.nd rfl (Or.inl rfl) (pe_at (get_second c (hr.mono (by decide))) (pe_at (get_tie c) (pv 0))))
    (pss_cons (ps_if (pt_val (pe_callF (ok_is_pin c) (hr.mono (by decide)) rfl (g_is_pin c) (pa_cons (pe_at (get_tie c) (pv 1)) pa_nil))) (pss_cons (ps_if (pt_cmpR op_lt (pe_at (get_first c (hr.mono (by decide))) (pe_at (get_tie c) (pv 1))) (pv 2) (nomark _)) (pss_one (ps_ret (pv 1))) pss_nil)
    (pss_cons (ps_set (i := 3) sc_read_by_link.nd rfl (Or.inl rfl) (pe_callF (ok_way_to c) (hr.mono (by decide)) rfl (g_way_to c) (pa_cons (pv 0) (pa_cons (pe_at (get_first c (hr.mono (by decide))) (pe_at (get_tie c) (pv 1))) pa_nil))))
    (pss_one (ps_ret (pe_callF (ok_joined c) (hr.mono (by decide)) rfl (g_joined c) (pa_cons (pe_callF (ok_joined c) (hr.mono (by decide)) rfl (g_joined c) (pa_cons (pv 3) (pa_cons (pv 1) pa_nil))) (pa_cons (pe_callF (ok_back c) (hr.mono (by decide)) rfl (g_back c) (pa_cons (pv 3) pa_nil)) pa_nil))))))) pss_nil)
    (pss_cons (ps_if (pt_cmpR op_ge (pe_at (get_second c (hr.mono (by decide))) (pe_at (get_tie c) (pv 1))) (pv 2) (nomark _)) (pss_one (ps_set (i := 1) sc_read_by_link.nd rfl (Or.inl rfl) (pe_callF (ok_joined c) (hr.mono (by decide)) rfl (g_joined c) (pa_cons (pv 1) (pa_cons (pe_callF (ok_back c) (hr.mono (by decide)) rfl (g_back c) (pa_cons (pe_callF (ok_way_to c) (hr.mono (by decide)) rfl (g_way_to c) (pa_cons (pv 0) (pa_cons (pe_at (get_second c (hr.mono (by decide))) (pe_at (get_tie c) (pv 1))) pa_nil))) pa_nil)) pa_nil))))) pss_nil)
    (pss_cons (ps_if (pt_cmpR op_ge (pe_at (get_first c (hr.mono (by decide))) (pe_at (get_tie c) (pv 1))) (pv 2) (nomark _)) (pss_one (ps_set (i := 1) sc_read_by_link.nd rfl (Or.inl rfl) (pe_callF (ok_back c) (hr.mono (by decide)) rfl (g_back c) (pa_cons (pe_callF (ok_joined c) (hr.mono (by decide)) rfl (g_joined c) (pa_cons (pe_callF (ok_back c) (hr.mono (by decide)) rfl (g_back c) (pa_cons (pv 1) pa_nil)) (pa_cons (pe_callF (ok_back c) (hr.mono (by decide)) rfl (g_back c) (pa_cons (pe_callF (ok_way_to c) (hr.mono (by decide)) rfl (g_way_to c) (pa_cons (pv 0) (pa_cons (pe_at (get_first c (hr.mono (by decide))) (pe_at (get_tie c) (pv 1))) pa_nil))) pa_nil)) pa_nil))) pa_nil)))) pss_nil)
    (pss_one (ps_ret (pv 1)))))))), ?_⟩
  unfold Lad.readLink at hQ
  refine ⟨_, rfl, k, hk, fun w hw => ⟨k, hw, ?_⟩⟩
  refine ⟨_, rfl, t, ht, fun w hw => ⟨w, t, rfl, hw, _, rfl, ?_⟩⟩
  cases hp : t.isPin with
  | true =>
    rw [if_pos hp] at hQ
    refine iteT ⟨_, rfl, t, ht, fun w hw => ⟨t, hw, _, rfl, _, _, rfl, rfl, _, rfl, ?_⟩⟩
    by_cases h1 : t.f < k.s
    · rw [decide_eq_true h1]
      rw [if_pos h1] at hQ
      exact iteT ⟨_, rfl, hQ _ _ (Same.refl _) ht⟩
    · rw [decide_eq_false h1]
      rw [if_neg h1] at hQ
      obtain ⟨g1, g2, g3⟩ := g.p1 hp (by omega)
      have o1 := Lad.way_ok ok1 g1
      refine iteF ⟨_, rfl, _, rfl, t, ht, fun w hw => ⟨t, hw, _, k, _, rfl, hk, ok1, g1, fun v1 H1 s1 l1 => ?_⟩⟩
      refine ⟨_, rfl, _, rfl, _, _, _, _, rfl, l1, ht.mono s1, o1, ok2, g2, fun v2 H2 s2 l2 => ⟨_, rfl, _, _, rfl, l1.mono s2, o1, fun v3 H3 s3 l3 => ?_⟩⟩
      exact ⟨_, _, _, _, rfl, l2.mono s3, l3, Lad.join_ok o1 ok2 g2, Lad.inv_ok o1, g3, fun v4 H4 s4 l4 => hQ _ _ (s1.trans (s2.trans (s3.trans s4))) l4⟩
  | false =>
    rw [if_neg (by rw [hp]; exact Bool.false_ne_true)] at hQ
    refine iteF ⟨_, rfl, t, ht, fun w hw => ⟨t, hw, _, rfl, _, _, rfl, rfl, _, rfl, ?_⟩⟩
    have o2 := Lad.two_ok ok1 ok2 g hp
    have one := g.one hp
    by_cases h1 : k.s ≤ t.s
    · rw [decide_eq_true h1]
      have e : Lad.readTwo k t = t.join (k.way t.s).inv := if_pos h1
      obtain ⟨g1, g2⟩ := g.two hp h1
      have o1 := Lad.way_ok ok1 g1
      refine iteT ⟨_, rfl, _, rfl, _, rfl, t, ht, fun w hw => ⟨_, hw, _, _, _, rfl, hk, ok1, g1, fun v3 H3 s3 l3 => ?_⟩⟩
      refine ⟨_, _, rfl, l3, o1, fun v4 H4 s4 l4 => ⟨_, _, _, _, rfl, ht.mono (s3.trans s4), l4, ok2, Lad.inv_ok o1, g2, fun v5 H5 s5 l5 => ?_⟩⟩
      rw [← e] at l5
      have S : Same H H5 := s3.trans (s4.trans s5)
      refine ⟨_, rfl, _, l5, fun w hw => ⟨_, hw, _, rfl, _, _, rfl, rfl, _, rfl, ?_⟩⟩
      unfold Lad.readOne at hQ
      by_cases h1 : k.s ≤ (Lad.readTwo k t).f
      · rw [decide_eq_true h1]
        rw [if_pos h1] at hQ
        obtain ⟨g1, g2⟩ := one h1
        have o1 := Lad.way_ok ok1 g1
        refine iteT ⟨_, rfl, _, _, rfl, l5, o2, fun v2 H2 s2 l2 => ⟨_, rfl, _, rfl, _, l5.mono s2, fun w hw => ⟨_, hw, _, _, _, rfl, hk.mono (Same.trans S s2), ok1, g1, fun v3 H3 s3 l3 => ?_⟩⟩⟩
        refine ⟨_, _, rfl, l3, o1, fun v4 H4 s4 l4 => ⟨_, _, _, _, rfl, l2.mono (s3.trans s4), l4, Lad.inv_ok o2, Lad.inv_ok o1, g2, fun v5 H5 s5 l5 => ?_⟩⟩
        refine ⟨_, _, rfl, l5, Lad.join_ok (Lad.inv_ok o2) (Lad.inv_ok o1) g2, fun v6 H6 s6 l6 => ⟨_, rfl, hQ _ _ (Same.trans S (s2.trans (s3.trans (s4.trans (s5.trans s6))))) l6⟩⟩
      · rw [decide_eq_false h1]
        rw [if_neg h1] at hQ
        exact iteF ⟨_, rfl, hQ _ _ S l5⟩
    · rw [decide_eq_false h1]
      have e : Lad.readTwo k t = t := if_neg h1
      have l5 : LinkAt K H u (Lad.readTwo k t) := by rw [e]; exact ht
      have S : Same H H := Same.refl _
      refine iteF ?_
      refine ⟨_, rfl, _, l5, fun w hw => ⟨_, hw, _, rfl, _, _, rfl, rfl, _, rfl, ?_⟩⟩
      unfold Lad.readOne at hQ
      by_cases h1 : k.s ≤ (Lad.readTwo k t).f
      · rw [decide_eq_true h1]
        rw [if_pos h1] at hQ
        obtain ⟨g1, g2⟩ := one h1
        have o1 := Lad.way_ok ok1 g1
        refine iteT ⟨_, rfl, _, _, rfl, l5, o2, fun v2 H2 s2 l2 => ⟨_, rfl, _, rfl, _, l5.mono s2, fun w hw => ⟨_, hw, _, _, _, rfl, hk.mono (Same.trans S s2), ok1, g1, fun v3 H3 s3 l3 => ?_⟩⟩⟩
        refine ⟨_, _, rfl, l3, o1, fun v4 H4 s4 l4 => ⟨_, _, _, _, rfl, l2.mono (s3.trans s4), l4, Lad.inv_ok o2, Lad.inv_ok o1, g2, fun v5 H5 s5 l5 => ?_⟩⟩
        refine ⟨_, _, rfl, l5, Lad.join_ok (Lad.inv_ok o2) (Lad.inv_ok o1) g2, fun v6 H6 s6 l6 => ⟨_, rfl, hQ _ _ (Same.trans S (s2.trans (s3.trans (s4.trans (s5.trans s6))))) l6⟩⟩
      · rw [decide_eq_false h1]
        rw [if_neg h1] at hQ
        exact iteF ⟨_, rfl, hQ _ _ S l5⟩
abbrev n_read_through : List Str := ["cutter", "link"]
abbrev pr_read_through : List Str := ["cutter", "link"]
theorem sc_read_through : FnScope n_read_through pr_read_through (defScope s_read_through) := ⟨rfl, rfl, rfl, by decide +kernel, rfl, by decide +kernel, by decide +kernel⟩

def spRead (K : Fg) : Sp := fun vs H Q _ => ∃ v u c t, vs = [v, u] ∧ LinkAt K H v c ∧ LinkAt K H u t ∧ Lad.Ok c ∧ Lad.Ok t ∧ Lad.ReadGood c t ∧ giveL K H Q (Lad.readBy c t)
theorem ok_read_through (c : Env K mg) : Pm P w K mg base 8 (d_read_through.at_ K) (spRead K) := by
  obtain ⟨fd, F⟩ := fd_read_through c
  refine .mk0 (F.ok sc_read_through (ps := pr_read_through) (by intro vs H Q E h; obtain ⟨_, _, _, _, rfl, _⟩ := h; rfl) fun cdv A outer s H vs Q E hr h => ?_) (FunD.bindsN F fun _ _ _ _ _ _ us hl => match us, hl with | [_, _], _ => rfl) F.kp
  obtain ⟨v, u, k, t, rfl, hk, ht, ok1, ok2, g, hQ⟩ := h
  refine ⟨_, (PSs.nox (pss_one (ps_ret (pe_ifExp (pt_val (pe_callF (ok_is_pin c) (hr.mono (by decide)) rfl (g_is_pin c) (pa_cons (pe_at (get_tie c) (pv 0)) pa_nil))) (pe_callF (ok_read_by_pin c) (hr.mono (by decide)) rfl (g_read_by_pin c) (pa_cons (pv 0) (pa_cons (pv 1) pa_nil))) (pe_callF (ok_read_by_link c) (hr.mono (by decide)) rfl (g_read_by_link c) (pa_cons (pv 0) (pa_cons (pv 1) pa_nil))))))), ?_⟩
  unfold Lad.readBy at hQ
  refine ⟨_, rfl, k, hk, fun w hw => ⟨w, k, rfl, hw, _, rfl, ?_⟩⟩
  cases hp : k.isPin with
  | true =>
    rw [if_pos hp] at hQ
    exact iteT ⟨_, rfl, _, rfl, _, _, k, t, rfl, hk, ht, ok1, ok2, g.pin hp, hQ⟩
  | false =>
    rw [if_neg (by rw [hp]; exact Bool.false_ne_true)] at hQ
    exact iteF ⟨_, rfl, _, rfl, _, _, k, t, rfl, hk, ht, ok1, ok2, g.lnk hp, hQ⟩
end
end TT

-- W10
set_option Elab.async false
set_option linter.all false
set_option maxRecDepth 100000
set_option maxHeartbeats 4000000
namespace TT
open PySem PySem.Spec PyProof.Rows L2
/-! ### lists of links -/
def LinksAt (K : Fg) (H : Hp) (v : V) (ts : List Lad.Ti) : Prop := ∃ a vs, v = V.ref a ∧ H a = some (.lst vs) ∧ Paired (LinkAt K H) vs ts
theorem pair_mono {α β : Type} {F G : α → β → Prop} {l₁ : List α} {l₂ : List β} (h : Paired F l₁ l₂) (f : ∀ a b, F a b → G a b) : Paired G l₁ l₂ := Paired.mapP h f
theorem pair_len {α β : Type} {F : α → β → Prop} {l₁ : List α} {l₂ : List β} (h : Paired F l₁ l₂) : l₁.length = l₂.length := Paired.length h
theorem pair_app {α β : Type} {F : α → β → Prop} : ∀ {l₁ m₁ : List α} {l₂ m₂ : List β}, Paired F l₁ l₂ → Paired F m₁ m₂ → Paired F (l₁ ++ m₁) (l₂ ++ m₂)
  | _, _, _, _, .nil, s => s
  | _, _, _, _, .cons r t, s => .cons r (pair_app t s)
theorem pair_get {α β : Type} {F : α → β → Prop} : ∀ {l₁ : List α} {l₂ : List β} {i : Nat} {x : α}, Paired F l₁ l₂ → l₁[i]? = some x → ∃ y, l₂[i]? = some y ∧ F x y
  | _, _, i, x, .nil, e => by simp at e
  | _, _, 0, x, .cons r _, e => by simp at e; subst e; exact ⟨_, rfl, r⟩
  | _, _, i + 1, x, .cons _ t, e => by
    obtain ⟨y, h1, h2⟩ := pair_get (i := i) (x := x) t (by simpa using e)
    exact ⟨y, by simpa using h1, h2⟩
theorem pair_take {α β : Type} {F : α → β → Prop} : ∀ (n : Nat) {l₁ : List α} {l₂ : List β}, Paired F l₁ l₂ → Paired F (l₁.take n) (l₂.take n)
  | 0, _, _, _ => by simp only [List.take_zero]; exact .nil
  | _ + 1, _, _, .nil => .nil
  | n + 1, _, _, .cons r t => .cons r (pair_take n t)
theorem pair_drop {α β : Type} {F : α → β → Prop} : ∀ (n : Nat) {l₁ : List α} {l₂ : List β}, Paired F l₁ l₂ → Paired F (l₁.drop n) (l₂.drop n)
  | 0, _, _, h => h
  | _ + 1, _, _, .nil => .nil
  | n + 1, _, _, .cons _ t => pair_drop n t
theorem LinksAt.mono {K : Fg} {H H' : Hp} {v : V} {ts : List Lad.Ti} (h : LinksAt K H v ts) (e : Same H H') : LinksAt K H' v ts := by
  obtain ⟨a, vs, ev, ha, p⟩ := h
  exact ⟨a, vs, ev, e _ _ ha, pair_mono p fun _ _ q => q.mono e⟩
/-- all but lists stays -/
def Xs (H H' : Hp) : Prop := ∀ a o, H a = some o → (∀ xs, o ≠ .lst xs) → H' a = some o
theorem Xs.refl (H : Hp) : Xs H H := fun _ _ e _ => e
theorem Xs.trans {H H1 H2 : Hp} (a : Xs H H1) (b : Xs H1 H2) : Xs H H2 := fun p o e n => b p o (a p o e n) n
theorem Xs.of {H H' : Hp} (a : Same H H') : Xs H H' := fun p o e _ => a p o e
theorem Xs.lst {H : Hp} {D : Addr} {xs ys : List V} (h : H D = some (.lst xs)) : Xs H (upd H D (.lst ys)) := fun p o e n => by
  rw [upd_ne (fun q => by rw [q, h] at e; exact n xs (Option.some.inj e).symm)]
  exact e
theorem TieAt.xs {K : Fg} {H H' : Hp} {v : V} {t : Lad.Ti} (h : TieAt K H v t) (e : Xs H H') : TieAt K H' v t := by
  obtain ⟨a, dx, ev, ha⟩ := h
  exact ⟨a, dx, ev, e _ _ ha fun _ q => by cases q⟩
theorem LinkAt.xs {K : Fg} {H H' : Hp} {v : V} {t : Lad.Ti} (h : LinkAt K H v t) (e : Xs H H') : LinkAt K H' v t := by
  obtain ⟨a, dx, vs, u, ev, ⟨h1, h2⟩, h3, h4⟩ := h
  exact ⟨a, dx, vs, u, ev, ⟨e _ _ h1 fun _ q => (by unfold SlX.SlO at q; cases q), e _ _ h2 fun _ q => (by cases q)⟩, h3, h4.xs e⟩
/-- a new list of links -/
def giveLs (K : Fg) (H : Hp) (Q : VK) (ts : List Lad.Ti) : Prop := ∀ a vs H', Same H H' → H a = none → H' a = some (.lst vs) → Paired (LinkAt K H') vs ts → Q (.ref a) H'
section
variable {P : Program} {w : World} {K : Fg} {mg : Str → Option Value} {base : Heap}
abbrev n_shortened : List Str := ["cutter", "low", "end", "many"]
abbrev pr_shortened : List Str := ["cutter", "low", "end"]
theorem sc_shortened : FnScope n_shortened pr_shortened (defScope s_shortened) := ⟨rfl, rfl, rfl, by decide +kernel, rfl, by decide +kernel, by decide +kernel⟩

def spShort (K : Fg) : Sp := fun vs H Q _ => ∃ v k lo e, vs = [v, V.int lo, V.int e] ∧ LinkAt K H v k ∧ Lad.Ok k ∧ k.s ≤ lo ∧ lo ≤ e ∧ e = k.s + k.l ∧ giveLs K H Q (Lad.shortened k lo e)
theorem ok_shortened (c : Env K mg) : Pm P w K mg base 7 (d_shortened.at_ K) (spShort K) := by
  obtain ⟨fd, F⟩ := fd_shortened c
  refine .mk0 (F.ok sc_shortened (ps := pr_shortened) (by intro vs H Q E h; obtain ⟨_, _, _, _, rfl, _⟩ := h; rfl) fun cdv A outer s H vs Q E hr h => ?_) (FunD.bindsN F fun _ _ _ _ _ _ us hl => match us, hl with | [_, _, _], _ => rfl) F.kp
  obtain ⟨v, k, lo, e, rfl, hk, ok, h1, h2, he, hQ⟩ := h
  refine ⟨_, (PSs.nox (pss_cons (ps_set (i := 3) sc_shortened.nd rfl (Or.inl rfl) (pe_op op_sub (pv 1) (pe_at (get_second c (hr.mono (by decide))) (pe_at (get_tie c) (pv 0)))))
    (pss_cons (ps_if (pt_cmpR op_eq (pv 3) pe_int (nomark _)) (pss_one (ps_ret (pe_lst pa_nil))) pss_nil)
    (pss_one (ps_ret (pe_lst (pa_cons (pe_callF (ok_part c) (hr.mono (by decide)) rfl (g_part c) (pa_cons (pv 0) (pa_cons (pe_ifExp (pt_val (pe_at (get_backward c (hr.mono (by decide))) (pe_at (get_tie c) (pv 0)))) (pe_op op_sub (pv 2) (pv 1)) pe_int) (pa_cons (pv 3) pa_nil)))) pa_nil))))))), ?_⟩
  unfold Lad.shortened at hQ
  refine ⟨_, rfl, _, rfl, k, hk, fun w hw => ⟨k, hw, _, _, rfl, rfl, _, rfl, rfl, _, rfl, ?_⟩⟩
  rw [dec_int]
  by_cases h0 : lo - k.s = 0
  · rw [beq_iff_eq.mpr h0]
    rw [if_pos h0] at hQ
    exact iteT ⟨by show 0 ≤ sizeLine; decide, fun p hp => hQ _ _ _ (same_upd hp) hp upd_same .nil⟩
  · rw [beq_eq_false_iff_ne.mpr h0]
    rw [if_neg h0] at hQ
    refine iteF ⟨_, rfl, _, rfl, k, hk, fun w hw => ⟨k, hw, _, rfl, ?_⟩⟩
    by_cases hb : k.b = true
    · rw [if_pos hb] at hQ
      rw [if_pos hb]
      refine ⟨_, rfl, _, rfl, _, _, rfl, rfl, _, rfl, _, k, _, _, rfl, hk, ok, by omega, by omega, by omega, fun v1 H1 s1 l1 => ?_⟩
      exact ⟨by show 1 ≤ sizeLine; decide, fun p hp => hQ _ _ _ (s1.trans (same_upd hp)) (s1.free hp) upd_same (.cons (l1.mono (same_upd hp)) .nil)⟩
    · rw [if_neg hb] at hQ
      rw [if_neg hb]
      refine ⟨_, rfl, _, k, _, _, rfl, hk, ok, by omega, by omega, by omega, fun v1 H1 s1 l1 => ?_⟩
      exact ⟨by show 1 ≤ sizeLine; decide, fun p hp => hQ _ _ _ (s1.trans (same_upd hp)) (s1.free hp) upd_same (.cons (l1.mono (same_upd hp)) .nil)⟩
abbrev n_evened : List Str := ["link", "tie", "meet", "half", "found"]
abbrev pr_evened : List Str := ["link"]
theorem sc_evened : FnScope n_evened pr_evened (defScope s_evened) := ⟨rfl, rfl, rfl, by decide +kernel, rfl, by decide +kernel, by decide +kernel⟩

def spEven1 (K : Fg) : Sp := fun vs H Q _ => ∃ v t, vs = [v] ∧ LinkAt K H v t ∧ Lad.Ok t ∧ t.f ≤ t.s ∧ (∃ x, Lad.Holds x t) ∧ giveLs K H Q (Lad.evened1 t)
theorem ok_evened1 (c : Env K mg) : Pm P w K mg base 7 (d_evened.at_ K) (spEven1 K) := by
  obtain ⟨fd, F⟩ := fd_evened c
  refine .mk0 (F.ok sc_evened (ps := pr_evened) (by intro vs H Q E h; obtain ⟨_, _, rfl, _⟩ := h; rfl) fun cdv A outer s H vs Q E hr h => ?_) (FunD.bindsN F fun _ _ _ _ _ _ us hl => match us, hl with | [_], _ => rfl) F.kp
  obtain ⟨v, t, rfl, hk, ok, hle, hx, hQ⟩ := h
  refine ⟨_, (PSs.nox (pss_cons (ps_set (i := 1) sc_evened.nd rfl (Or.inl rfl) (pe_at (get_tie c) (pv 0)))
    (pss_cons (ps_if (pt_cmpR op_gt (pe_at (get_first c (hr.mono (by decide))) (pv 1)) (pe_at (get_second c (hr.mono (by decide))) (pv 1)) (nomark _)) pss_never pss_nil)
    (pss_cons (ps_if (pt_val (pe_callF (ok_is_one_part c) (hr.mono (by decide)) rfl (g_is_one_part c) (pa_cons (pv 1) pa_nil))) (pss_one (ps_ret (pe_ifExp (PW.pt (pw_or (pt_val (pe_at (get_down c (hr.mono (by decide))) (pv 1))) (pw_or1 (pt_cmpR op_ne (pe_at (get_amount c (hr.mono (by decide))) (pv 1)) pe_int (nomark _))))) (pe_lst (pa_cons (pv 0) pa_nil)) (pe_lst pa_nil)))) pss_nil)
    (pss_cons (ps_set (i := 2) sc_evened.nd rfl (Or.inl rfl) (pe_op op_sub (pe_op op_add (pe_at (get_first c (hr.mono (by decide))) (pv 1)) (pe_at (get_length c (hr.mono (by decide))) (pv 1))) (pe_at (get_second c (hr.mono (by decide))) (pv 1))))
    (pss_cons (ps_if (PW.pt (pw_or (pt_not (pt_val (pe_at (get_backward c (hr.mono (by decide))) (pv 1)))) (pw_or1 (pt_cmpR op_le (pv 2) pe_int (nomark _))))) (pss_one (ps_ret (pe_lst (pa_cons (pv 0) pa_nil)))) pss_nil)
    (pss_cons (ps_if (PW.pt (pw_and (pt_not (pt_val (pe_at (get_down c (hr.mono (by decide))) (pv 1)))) (pw_and1 (pt_cmpR op_ne (pe_at (get_amount c (hr.mono (by decide))) (pv 1)) pe_int (nomark _))))) pss_never pss_nil)
    (pss_cons (ps_set (i := 3) sc_evened.nd rfl (Or.inl rfl) (pe_op op_sub (pe_op op_fdiv (pe_op op_add (pe_op op_add (pe_at (get_first c (hr.mono (by decide))) (pv 1)) (pe_at (get_second c (hr.mono (by decide))) (pv 1))) (pe_at (get_length c (hr.mono (by decide))) (pv 1))) pe_int) (pe_at (get_first c (hr.mono (by decide))) (pv 1))))
    (pss_cons (ps_set (i := 4) sc_evened.nd rfl (Or.inl rfl) (pe_lst (pa_cons (pe_callF (ok_part c) (hr.mono (by decide)) rfl (g_part c) (pa_cons (pv 0) (pa_cons pe_int (pa_cons (pv 3) pa_nil)))) pa_nil)))
    (pss_one (ps_ret (pe_ifExp (PW.pt (pw_and (pt_val (pe_at (get_down c (hr.mono (by decide))) (pv 1))) (pw_and1 (pt_cmpR op_eq (pe_op op_mod (pv 2) pe_int) pe_int (nomark _))))) (pe_lst (StX.pa_star (pv 4) (pa_cons (pe_callF (ok_part c) (hr.mono (by decide)) rfl (g_part c) (pa_cons (pv 0) (pa_cons (pv 3) (pa_cons pe_int pa_nil)))) pa_nil))) (pv 4))))))))))))), ?_⟩
  unfold Lad.evened1 at hQ
  have one : giveLs K H Q [t] → ∀ p, H p = none → Q (.ref p) (upd H p (.lst [v])) := fun g p hp => g _ _ _ (same_upd hp) hp upd_same (.cons (hk.mono (same_upd hp)) .nil)
  refine ⟨_, rfl, t, hk, fun w hw => ⟨_, rfl, t, hw, _, rfl, t, hw, _, _, rfl, rfl, _, rfl, ?_⟩⟩
  rw [decide_eq_false (show ¬ t.s < t.f by omega)]
  refine iteF ⟨_, rfl, w, t, rfl, hw, _, rfl, ?_⟩
  by_cases ho : t.isOne = true
  · rw [ho]
    rw [if_pos ho] at hQ
    refine iteT ⟨_, rfl, t, hw, _, rfl, ?_⟩
    by_cases hd : t.d = true
    · rw [hd, Bool.true_or, if_pos rfl] at hQ
      rw [hd]
      exact iteT (iteT ⟨_, rfl, by show 1 ≤ sizeLine; decide, one hQ⟩)
    · have hd : t.d = false := by simpa using hd
      rw [hd, Bool.false_or] at hQ
      rw [hd]
      refine iteF ⟨_, rfl, t, hw, rfl, _, rfl, ?_⟩
      rw [ne_int]
      by_cases ha : (t.a != 0) = true
      · rw [if_pos ha] at hQ
        rw [ha]
        exact iteT ⟨_, rfl, by show 1 ≤ sizeLine; decide, one hQ⟩
      · rw [if_neg ha] at hQ
        rw [if_neg ha]
        exact ⟨by show 0 ≤ sizeLine; decide, fun p hp => hQ _ _ _ (same_upd hp) hp upd_same .nil⟩
  · rw [if_neg ho] at hQ
    rw [if_neg ho]
    refine ⟨_, rfl, t, hw, _, rfl, t, hw, _, _, rfl, rfl, _, rfl, t, hw, _, _, rfl, rfl, ?_⟩
    refine ⟨_, rfl, t, hw, _, rfl, ?_⟩
    by_cases hb : t.b = true
    · rw [hb, Bool.not_true, Bool.false_or] at hQ
      rw [hb]
      refine iteF ⟨_, rfl, _, _, rfl, rfl, _, rfl, ?_⟩
      by_cases hm : t.f + t.l - t.s ≤ 0
      · rw [decide_eq_true hm] at hQ ⊢
        rw [if_pos rfl] at hQ
        exact iteT ⟨_, rfl, by show 1 ≤ sizeLine; decide, one hQ⟩
      · rw [decide_eq_false hm] at hQ ⊢
        rw [if_neg Bool.false_ne_true] at hQ
        have lp : Lad.Lap t := ⟨hb, hle, by omega⟩
        obtain ⟨c1, c2, c3⟩ := Lad.half_le lp (ok.bb hb)
        refine iteF ⟨_, rfl, t, hw, _, rfl, ?_⟩
        obtain ⟨x, hx⟩ := hx
        have ha0 : t.d = false → t.a = 0 := fun q => Lad.lap_up lp q hx
        have eh : (t.f + t.s + t.l) / 2 - t.f = t.half := rfl
        cases hd : t.d with
        | true =>
          refine iteF ?_
          refine ⟨_, rfl, t, hw, _, rfl, t, hw, _, _, rfl, rfl, _, rfl, t, hw, _, _, rfl, rfl, _, _, rfl, rfl, ⟨by show (0 : Int) < 2; decide, by show (2 : Int) < 1073741824; decide⟩, _, rfl, t, hw, _, _, rfl, rfl, ?_⟩
          refine ⟨_, rfl, _, rfl, _, t, _, _, rfl, hk, ok, Int.le_refl _, c1, (by show 0 + t.half ≤ t.l; omega), fun v1 H1 s1 l1 => ?_⟩
          refine ⟨by show 1 ≤ sizeLine; decide, fun p hp => ?_⟩
          have s2 := s1.trans (same_upd (o := .lst [v1]) hp)
          have l2 := l1.mono (same_upd (o := .lst [v1]) hp)
          have p2 : (upd H1 p (.lst [v1])) p = some (.lst [v1]) := upd_same
          revert s2 l2 p2
          generalize upd H1 p (.lst [v1]) = H2
          intro s2 l2 p2
          have hw2 := hw.mono s2
          have hk2 := hk.mono s2
          refine ⟨_, rfl, t, hw2, _, rfl, ?_⟩
          rw [hd]
          refine iteT ⟨_, rfl, _, _, rfl, rfl, (by show (0 : Int) < 2; decide), rfl, _, rfl, ?_⟩
          rw [dec_int]
          rw [hd, Bool.true_and] at hQ
          by_cases e : ((t.f + t.l - t.s) % 2 == 1) = true
          · rw [if_pos e] at hQ
            rw [e]
            refine iteT ⟨_, rfl, p, _, rfl, .inr (.of p2), _, rfl, _, rfl, _, t, _, _, rfl, hk2, ok, (by show 0 ≤ t.half; omega), Int.le_refl _, c3 (beq_iff_eq.mp e), fun v3 H3 s3 l3 => ?_⟩
            exact ⟨by show 2 ≤ sizeLine; decide, fun q hq => hQ _ _ _ (s2.trans (s3.trans (same_upd hq))) (s2.free (s3.free hq)) upd_same (.cons (l2.mono (s3.trans (same_upd hq))) (.cons (l3.mono (same_upd hq)) .nil))⟩
          · rw [if_neg e] at hQ
            rw [if_neg e]
            exact ⟨_, rfl, hQ _ _ _ s2 (s1.free hp) p2 (.cons l2 .nil)⟩
        | false =>
          rw [hd, Bool.false_and, if_neg Bool.false_ne_true] at hQ
          refine iteT ⟨_, rfl, t, hw, rfl, _, rfl, ?_⟩
          rw [ne_int, ha0 hd]
          refine iteF ?_
          refine ⟨_, rfl, t, hw, _, rfl, t, hw, _, _, rfl, rfl, _, rfl, t, hw, _, _, rfl, rfl, _, _, rfl, rfl, ⟨by show (0 : Int) < 2; decide, by show (2 : Int) < 1073741824; decide⟩, _, rfl, t, hw, _, _, rfl, rfl, ?_⟩
          refine ⟨_, rfl, _, rfl, _, t, _, _, rfl, hk, ok, Int.le_refl _, c1, (by show 0 + t.half ≤ t.l; omega), fun v1 H1 s1 l1 => ?_⟩
          refine ⟨by show 1 ≤ sizeLine; decide, fun p hp => ?_⟩
          have s2 := s1.trans (same_upd (o := .lst [v1]) hp)
          have l2 := l1.mono (same_upd (o := .lst [v1]) hp)
          have p2 : (upd H1 p (.lst [v1])) p = some (.lst [v1]) := upd_same
          revert s2 l2 p2
          generalize upd H1 p (.lst [v1]) = H2
          intro s2 l2 p2
          have hw2 := hw.mono s2
          refine ⟨_, rfl, t, hw2, _, rfl, ?_⟩
          rw [hd]
          refine iteF (iteF ⟨_, rfl, hQ _ _ _ s2 (s1.free hp) p2 (.cons l2 .nil)⟩)
    · have hb : t.b = false := by simpa using hb
      rw [hb, Bool.not_false, Bool.true_or, if_pos rfl] at hQ
      rw [hb]
      exact iteT (iteT ⟨_, rfl, by show 1 ≤ sizeLine; decide, one hQ⟩)
def spEven2 (K : Fg) : Sp := fun vs H Q _ => ∃ v t, vs = [v] ∧ LinkAt K H v t ∧ Lad.Ok t ∧ t.s < t.f ∧ (∃ x, Lad.Holds x t) ∧ giveLs K H Q (Lad.evened1 t.inv)
theorem ok_evened2 (c : Env K mg) : Pm P w K mg base 8 (d_evened.at_ K) (spEven2 K) := by
  obtain ⟨fd, F⟩ := fd_evened c
  refine .mk0 (F.ok sc_evened (ps := pr_evened) (by intro vs H Q E h; obtain ⟨_, _, rfl, _⟩ := h; rfl) fun cdv A outer s H vs Q E hr h => ?_) (FunD.bindsN F fun _ _ _ _ _ _ us hl => match us, hl with | [_], _ => rfl) F.kp
  obtain ⟨v, t, rfl, hk, ok, hlt, ⟨x, hx⟩, hQ⟩ := h
  refine ⟨_, (PSs.nox (pss_cons (ps_set (i := 1) sc_evened.nd rfl (Or.inl rfl) (pe_at (get_tie c) (pv 0)))
    (pss_cons (ps_if (pt_cmpR op_gt (pe_at (get_first c (hr.mono (by decide))) (pv 1)) (pe_at (get_second c (hr.mono (by decide))) (pv 1)) (nomark _)) (pss_one (ps_ret (pe_callF (ok_evened1 c) (hr.mono (by decide)) rfl (g_evened c) (pa_cons (pe_callF (ok_back c) (hr.mono (by decide)) rfl (g_back c) (pa_cons (pv 0) pa_nil)) pa_nil)))) pss_nil)
    (pss_cons ps_never
    (pss_cons (ps_set (i := 2) sc_evened.nd rfl (Or.inl rfl) (pe_op op_sub (pe_op op_add (pe_at (get_first c (hr.mono (by decide))) (pv 1)) (pe_at (get_length c (hr.mono (by decide))) (pv 1))) (pe_at (get_second c (hr.mono (by decide))) (pv 1))))
    (pss_cons (ps_if (PW.pt (pw_or (pt_not (pt_val (pe_at (get_backward c (hr.mono (by decide))) (pv 1)))) (pw_or1 (pt_cmpR op_le (pv 2) pe_int (nomark _))))) (pss_one (ps_ret (pe_lst (pa_cons (pv 0) pa_nil)))) pss_nil)
    (pss_cons (ps_if (PW.pt (pw_and (pt_not (pt_val (pe_at (get_down c (hr.mono (by decide))) (pv 1)))) (pw_and1 (pt_cmpR op_ne (pe_at (get_amount c (hr.mono (by decide))) (pv 1)) pe_int (nomark _))))) (pss_one (ps_ret (pe_lst (pa_cons (pe_callF (ok_times c) (hr.mono (by decide)) rfl (g_times c) (pa_cons (pv 0) (pa_cons pe_int pa_nil))) pa_nil)))) pss_nil)
    (pss_cons (ps_set (i := 3) sc_evened.nd rfl (Or.inl rfl) (pe_op op_sub (pe_op op_fdiv (pe_op op_add (pe_op op_add (pe_at (get_first c (hr.mono (by decide))) (pv 1)) (pe_at (get_second c (hr.mono (by decide))) (pv 1))) (pe_at (get_length c (hr.mono (by decide))) (pv 1))) pe_int) (pe_at (get_first c (hr.mono (by decide))) (pv 1))))
    (pss_cons (ps_set (i := 4) sc_evened.nd rfl (Or.inl rfl) (pe_lst (pa_cons (pe_callF (ok_part c) (hr.mono (by decide)) rfl (g_part c) (pa_cons (pv 0) (pa_cons pe_int (pa_cons (pv 3) pa_nil)))) pa_nil)))
    (pss_one (ps_ret (pe_ifExp (PW.pt (pw_and (pt_val (pe_at (get_down c (hr.mono (by decide))) (pv 1))) (pw_and1 (pt_cmpR op_eq (pe_op op_mod (pv 2) pe_int) pe_int (nomark _))))) (pe_lst (StX.pa_star (pv 4) (pa_cons (pe_callF (ok_part c) (hr.mono (by decide)) rfl (g_part c) (pa_cons (pv 0) (pa_cons (pv 3) (pa_cons pe_int pa_nil)))) pa_nil))) (pv 4))))))))))))), ?_⟩
  refine ⟨_, rfl, t, hk, fun w hw => ⟨_, rfl, t, hw, _, rfl, t, hw, _, _, rfl, rfl, _, rfl, ?_⟩⟩
  rw [decide_eq_true hlt]
  refine iteT ⟨_, rfl, _, t, rfl, hk, ok, fun v1 H1 s1 l1 => ⟨_, _, rfl, l1, Lad.inv_ok ok, (by show t.s ≤ t.f; omega), ⟨x, Lad.holds_inv.mpr hx⟩, fun b ws H2 s2 n2 h2 l2 => hQ _ _ _ (s1.trans s2) (s1.free n2) h2 l2⟩⟩
def spEven (K : Fg) : Sp := fun vs H Q _ => ∃ v t, vs = [v] ∧ LinkAt K H v t ∧ Lad.Ok t ∧ (∃ x, Lad.Holds x t) ∧ giveLs K H Q (Lad.evened t)
theorem ok_evened (c : Env K mg) : Pm P w K mg base 8 (d_evened.at_ K) (spEven K) := by
  refine ⟨fun A outer s H us vs Q E hr e0 r h => ?_, (ok_evened2 (P := P) (w := w) (base := base) c).kp⟩
  obtain ⟨v, t, rfl, hk, ok, hx, hQ⟩ := h
  unfold Lad.evened at hQ
  by_cases hs : t.s < t.f
  · rw [if_pos hs] at hQ
    exact (ok_evened2 c).run A outer s H us _ Q E hr e0 r ⟨v, t, rfl, hk, ok, hs, hx, hQ⟩
  · rw [if_neg hs] at hQ
    exact ((ok_evened1 c).mono (by decide)).run A outer s H us _ Q E hr e0 r ⟨v, t, rfl, hk, ok, by omega, hx, hQ⟩
end
end TT

-- R3
set_option Elab.async false
set_option linter.all false
set_option maxRecDepth 100000
set_option maxHeartbeats 1000000
/-! max of a list: with a default; of a list of tuples -/
namespace TT
open PySem PySem.Spec PyProof.Rows L2
section
variable {prog : Program} {w : World} {A : Around} {R : Result → Shared → Prop} {I : Addr} {fp wr : List Addr} {n : Nat} {P : Nat → Value → Prop} {St : Nat → Heap → Prop}
abbrev bestO (xs : Array Value) (c : Nat) : Obj := { cls := .type "list", dict := none, data := .seq xs c, slots := #[] }
/-- the comparison, from the heap g on -/
def CmpG (prog : Program) (w : World) (A : Around) (g : Heap) (P : Nat → Value → Prop) (bt : Nat → Nat → Bool) : Prop :=
  ∀ (i j : Nat) (x y : Value) (s : Shared) (Q E : Value → Shared → Prop), P i x → P j y → (∀ b o, g.get? b = some o → s.heap.get? b = some o) → Q (.bool (bt i j)) s → wpAny (model prog w) A (richCompare .Gt x y) Q E s
theorem mx_more (g : Heap) (kw : List (Str × Value)) (W : Walks prog w A.in1 I fp wr n P St) (bt : Nat → Nat → Bool) (hcmp : CmpG prog w A.in1 g P bt) (S : Addr) (hSf : S ∉ fp) (gS : g.get? S = none) (gw : ∀ b ∈ wr, g.get? b = none) :
    ∀ (k j : Nat) (s : Shared) (y : Value) (c : Nat), n - (j + 1) = k → j + 1 ≤ n → St (j + 1) s.heap → P (argBest bt j) y → s.heap.get? S = some (bestO #[y, y] c) → (∀ b o, g.get? b = some o → s.heap.get? b = some o) →
    (∀ v h' tk, P (argBest bt (n - 1)) v → (∀ b o, b ∉ wr → b ≠ S → s.heap.get? b = some o → h'.get? b = some o) → R (.ok (.ret v)) { s with heap := h', toks := tk }) →
    codeAny (model prog w) A (.builtin "max.loop" ⟨[.ref I, .none, .ref S], kw⟩) R s := by
  have hSw : S ∉ wr := fun h => hSf (W.sub _ h)
  have nm : (toString "max" ++ toString ".loop" : String) = "max.loop" := by decide
  have gne : ∀ b o, g.get? b = some o → b ∉ wr ∧ b ≠ S := fun b o e => ⟨fun q => (by rw [gw b q] at e; cases e), fun q => (by rw [q, gS] at e; cases e)⟩
  intro k
  induction k with
  | zero =>
    intro j s y c hk hj st py hS hg fin
    have hn : j + 1 = n := by omega
    apply codeAny_builtin PySem.F.entry_max_loop
    rw [Around.under_plainId PySem.F.plain_max_loop _]
    show wpAny _ A.in1 (seqItems? (.ref S) >>= _) _ _ s
    refine wpAny_bind (wpAny_seqItems hS rfl (wpAny_bind (wpAny_tryCatch (W.done s _ _ (hn ▸ st) fun h' tk keep => ?_))))
    have hS' := keep S _ hSw hS
    refine wpAny_bind (wpAny_updateSeq hS' rfl (wpAny_bind (wpAny_letGo (wpAny_pure ?_))))
    exact fin y _ tk (by rw [← hn]; exact py) fun b o h1 h2 e => (Heap.get?_update_other _ _ (Ne.symm h2)).trans (keep b o h1 e)
  | succ k ih =>
    intro j s y c hk hj st py hS hg fin
    have hlt : j + 1 < n := by omega
    apply codeAny_builtin PySem.F.entry_max_loop
    rw [Around.under_plainId PySem.F.plain_max_loop _]
    show wpAny _ A.in1 (seqItems? (.ref S) >>= _) _ _ s
    refine wpAny_bind (wpAny_seqItems hS rfl (wpAny_bind (wpAny_tryCatch (W.item (j + 1) s _ _ hlt st fun x h' tk px st' keep => ?_))))
    have hS' := keep S _ hSw hS
    have hg' : ∀ b o, g.get? b = some o → h'.get? b = some o := fun b o e => keep b o (gne b o e).1 (hg b o e)
    show wpAny _ A.in1 (tryCatch (holding [x, x] (richCompare .Gt x y >>= _)) _ >>= _) _ _ _
    refine wpAny_bind (wpAny_tryCatch (wpAny_holding (wpAny_bind (hcmp (j + 1) (argBest bt j) x y _ _ _ px py hg' (wpAny_bind (wpAny_holding (wpAny_truthy_bool (wpAny_bind (wpAny_letGo (wpAny_pure ?_))))))))))
    cases hb : bt (j + 1) (argBest bt j) with
    | true =>
      simp only [if_true]
      refine wpAny_bind (wpAny_updateSeq hS' rfl (wpAny_bind (wpAny_letGo ?_)))
      rw [nm]
      refine wpAny_pure ⟨plainId_quiet PySem.F.plain_max_loop _, ih (j + 1) _ x _ (by omega) hlt (W.frame _ _ _ st' fun b q o e => ?_) (by simp only [argBest, hb, if_true]; exact px) (Heap.get?_update_self _ hS' rfl) (fun b o e => ?_) fun v h2 tk2 pv k2 => ?_⟩
      · exact (Heap.get?_update_other _ _ (fun h : S = b => hSf (by rw [h]; exact q))).trans e
      · exact (Heap.get?_update_other _ _ (Ne.symm (gne b o e).2)).trans (hg' b o e)
      · exact fin v h2 tk2 pv fun b o h1 h2 e => k2 b o h1 h2 ((Heap.get?_update_other _ _ (Ne.symm h2)).trans (keep b o h1 e))
    | false =>
      simp only [Bool.false_eq_true, if_false]
      refine wpAny_bind (wpAny_letGo ?_)
      rw [nm]
      refine wpAny_pure ⟨plainId_quiet PySem.F.plain_max_loop _, ih (j + 1) _ y c (by omega) hlt st' (by simp only [argBest, hb, Bool.false_eq_true, if_false]; exact py) hS' hg' fun v h2 tk2 pv k2 => ?_⟩
      exact fin v h2 tk2 pv fun b o h1 h2 e => k2 b o h1 h2 (keep b o h1 e)
theorem mx_first (g : Heap) (kw : List (Str × Value)) (W : Walks prog w A.in1 I fp wr n P St) (bt : Nat → Nat → Bool) (hcmp : CmpG prog w A.in1 g P bt) (S : Addr) (hSf : S ∉ fp) (gS : g.get? S = none) (gw : ∀ b ∈ wr, g.get? b = none) (hn : 0 < n) {s : Shared} {c : Nat}
    (st : St 0 s.heap) (hS : s.heap.get? S = some (bestO #[] c)) (hg : ∀ b o, g.get? b = some o → s.heap.get? b = some o)
    (fin : ∀ v h' tk, P (argBest bt (n - 1)) v → (∀ b o, b ∉ wr → b ≠ S → s.heap.get? b = some o → h'.get? b = some o) → R (.ok (.ret v)) { s with heap := h', toks := tk }) :
    codeAny (model prog w) A (.builtin "max.loop" ⟨[.ref I, .none, .ref S], kw⟩) R s := by
  have hSw : S ∉ wr := fun h => hSf (W.sub _ h)
  have nm : (toString "max" ++ toString ".loop" : String) = "max.loop" := by decide
  have gne : ∀ b o, g.get? b = some o → b ∉ wr ∧ b ≠ S := fun b o e => ⟨fun q => (by rw [gw b q] at e; cases e), fun q => (by rw [q, gS] at e; cases e)⟩
  apply codeAny_builtin PySem.F.entry_max_loop
  rw [Around.under_plainId PySem.F.plain_max_loop _]
  show wpAny _ A.in1 (seqItems? (.ref S) >>= _) _ _ s
  refine wpAny_bind (wpAny_seqItems hS rfl (wpAny_bind (wpAny_tryCatch (W.item 0 s _ _ hn st fun x h' tk px st' keep => ?_))))
  have hS' := keep S _ hSw hS
  have hg' : ∀ b o, g.get? b = some o → h'.get? b = some o := fun b o e => keep b o (gne b o e).1 (hg b o e)
  show wpAny _ A.in1 (updateSeq S (fun _ => #[x, x]) >>= _) _ _ _
  refine wpAny_bind (wpAny_updateSeq hS' rfl ?_)
  rw [nm]
  refine wpAny_pure ⟨plainId_quiet PySem.F.plain_max_loop _, mx_more g kw W bt hcmp S hSf gS gw _ 0 _ x _ rfl hn (W.frame _ _ _ st' fun b q o e => ?_) px (Heap.get?_update_self _ hS' rfl) (fun b o e => ?_) fun v h2 tk2 pv k2 => ?_⟩
  · exact (Heap.get?_update_other _ _ (fun h : S = b => hSf (by rw [h]; exact q))).trans e
  · exact (Heap.get?_update_other _ _ (Ne.symm (gne b o e).2)).trans (hg' b o e)
  · exact fin v h2 tk2 pv fun b o h1 h2 e => k2 b o h1 h2 ((Heap.get?_update_other _ _ (Ne.symm h2)).trans (keep b o h1 e))
theorem mx_none (d : Value) (W : Walks prog w A.in1 I fp wr 0 P St) (S : Addr) (hSf : S ∉ fp) {s : Shared} {c : Nat} (st : St 0 s.heap) (hS : s.heap.get? S = some (bestO #[] c))
    (fin : ∀ h' tk, (∀ b o, b ∉ wr → s.heap.get? b = some o → h'.get? b = some o) → R (.ok (.ret d)) { s with heap := h', toks := tk }) :
    codeAny (model prog w) A (.builtin "max.loop" ⟨[.ref I, .none, .ref S], [(Str.ofString "default", d)]⟩) R s := by
  apply codeAny_builtin PySem.F.entry_max_loop
  rw [Around.under_plainId PySem.F.plain_max_loop _]
  show wpAny _ A.in1 (seqItems? (.ref S) >>= _) _ _ s
  refine wpAny_bind (wpAny_seqItems hS rfl (wpAny_bind (wpAny_tryCatch (W.done s _ _ st fun h' tk keep => ?_))))
  refine wpAny_bind (wpAny_rule (wpAny_pure ?_))
  exact fin h' tk keep
end
section
variable {prog : Program} {w : World} {A : Around} {E : Value → Shared → Prop} {s : Shared} {l : Addr} {items : Array Value}
theorem argsD (a d : Value) : argsOk "max" ⟨[a], [(Str.ofString "default", d)]⟩ := by unfold argsOk; kernel_rfl
/-- the walk over a list -/
theorem it_list {Q : Value → Shared → Prop} (hl : s.heap.IsList l items)
    (h : ∀ s2 : Shared, s2.heap.IsListIter s.heap.objs.size l 0 → s2.heap.IsList l items → (∀ b ∈ [s.heap.objs.size, l], b < s2.heap.objs.size) → l ≠ s.heap.objs.size → (∀ b o, s.heap.get? b = some o → s2.heap.get? b = some o) →
      (∀ h' tk, Shared.mk h' s.gens s.drawn tk s.os = { s2 with heap := h', toks := tk }) → Q (.ref s.heap.objs.size) s2) :
    wpAny (model prog w) A (pyIter (.ref l)) Q E s := by
  have hlt : l < s.heap.objs.size := by obtain ⟨_, e, _⟩ := hl; exact Heap.lt_size e
  refine wpAny_pyIter_list hl (h _ ⟨_, Heap.get?_push_size _ rfl, rfl, rfl⟩ (hl.push _) (fun b hb => ?_) (Nat.ne_of_lt hlt) (fun b o e => Heap.get?_push_of_some _ e) fun _ _ => rfl)
  show b < (s.heap.push _).objs.size
  rw [Heap.size_push]
  rcases List.mem_cons.mp hb with rfl | hb
  · omega
  · rw [List.mem_singleton.mp hb]
    exact Nat.lt_succ_of_lt hlt
theorem fresh_none {h : Heap} {b : Addr} (e : h.objs.size ≤ b) : h.get? b = none := by
  cases q : h.get? b with
  | none => rfl
  | some o => exact absurd (Heap.lt_size q) (Nat.not_lt.mpr e)
theorem max_of {Q : Value → Shared → Prop} (hh : A.handled = none) (hl : s.heap.IsList l items) (bt : Nat → Nat → Bool) (hcmp : CmpG prog w A.in1 s.heap (fun i v => items[i]? = some v) bt) (hne : 0 < items.size)
    (h : ∀ v h' tk, items[argBest bt (items.size - 1)]? = some v → (∀ b o, s.heap.get? b = some o → h'.get? b = some o) → Q v { s with heap := h', toks := tk }) : wpAny (model prog w) A (call (.builtin "max") [.ref l]) Q E s := by
  have nm : (toString "max" ++ toString ".loop" : String) = "max.loop" := by decide
  refine call_function_tree PySem.F.kind_max PySem.F.plain_max PySem.F.entry_max (PySem.F.args_max1 _) ?_
  show wpAny _ A.in1 (Builtin.Builtins.bindParams "max" ["key", "default"] 0 ⟨[], []⟩ >>= _) _ _ s
  refine wpAny_bind (wpAny_of_eq (show Builtin.Builtins.bindParams "max" ["key", "default"] 0 ⟨[], []⟩ = pure [none, none] from rfl) (wpAny_bind (wpAny_pure ?_)))
  refine wpAny_bind (it_list hl fun s2 hi hl2 hfp hne2 k2 mk => wpAny_bind (wpAny_newObj_type ?_))
  rw [nm]
  have hSf : s2.heap.objs.size ∉ [s.heap.objs.size, l] := fun hm => Nat.lt_irrefl _ (hfp _ hm)
  have sz : s.heap.objs.size < s2.heap.objs.size := hfp _ List.mem_cons_self
  refine wpAny_pure ⟨plainId_quiet PySem.F.plain_max_loop _, mx_first s.heap [] (Walks.list (A := A.in1) hh _ l hne2 items) bt hcmp s2.heap.objs.size hSf (fresh_none (by omega)) (fun b hb => by cases List.mem_singleton.mp hb; exact fresh_none (Nat.le_refl _)) hne
    ⟨hi.at fun o e => Heap.get?_push_of_some _ e, hl2.push _⟩ (Heap.get?_push_size _ rfl) (fun b o e => Heap.get?_push_of_some _ (k2 b o e)) fun v h' tk pv kp => ?_⟩
  have q := h v h' tk pv fun b o e => kp b o (fun hm => ?_) (fun hm => ?_) (Heap.get?_push_of_some _ (k2 b o e))
  · exact mk h' tk ▸ q
  · cases List.mem_singleton.mp hm
    exact absurd (Heap.lt_size e) (Nat.lt_irrefl _)
  · have z := Heap.lt_size e
    rw [hm] at z
    exact absurd sz (Nat.not_lt.mpr (Nat.le_of_lt z))
theorem bindD (d : Value) : Builtin.Builtins.bindParams "max" ["key", "default"] 0 ⟨[], [(Str.ofString "default", d)]⟩ = pure [none, some d] := by kernel_rfl
theorem max_def {Q : Value → Shared → Prop} (d : Value) (hh : A.handled = none) (hl : s.heap.IsList l items) (bt : Nat → Nat → Bool) (hcmp : CmpG prog w A.in1 s.heap (fun i v => items[i]? = some v) bt)
    (h : ∀ v h' tk, (items.size = 0 ∧ v = d ∨ 0 < items.size ∧ items[argBest bt (items.size - 1)]? = some v) → (∀ b o, s.heap.get? b = some o → h'.get? b = some o) → Q v { s with heap := h', toks := tk }) :
    wpAny (model prog w) A (call (.builtin "max") [.ref l] [(Str.ofString "default", d)]) Q E s := by
  have nm : (toString "max" ++ toString ".loop" : String) = "max.loop" := by decide
  refine PyProof.Rows.kmk_tree PySem.F.kind_max PySem.F.plain_max PySem.F.entry_max (argsD _ _) ?_
  show wpAny _ A.in1 (Builtin.Builtins.bindParams "max" ["key", "default"] 0 ⟨[], [(Str.ofString "default", d)]⟩ >>= _) _ _ s
  refine wpAny_bind (wpAny_of_eq (bindD d) (wpAny_bind (wpAny_pure ?_)))
  refine wpAny_bind (it_list hl fun s2 hi hl2 hfp hne2 k2 mk => wpAny_bind (wpAny_newObj_type ?_))
  rw [nm]
  have hSf : s2.heap.objs.size ∉ [s.heap.objs.size, l] := fun hm => Nat.lt_irrefl _ (hfp _ hm)
  have sz : s.heap.objs.size < s2.heap.objs.size := hfp _ List.mem_cons_self
  have ne1 : ∀ b o, s.heap.get? b = some o → b ∉ [s.heap.objs.size] := fun b o e hm => by
    cases List.mem_singleton.mp hm
    exact absurd (Heap.lt_size e) (Nat.lt_irrefl _)
  have ne2 : ∀ b o, s.heap.get? b = some o → b ≠ s2.heap.objs.size := fun b o e hm => by
    have z := Heap.lt_size e
    rw [hm] at z
    exact absurd sz (Nat.not_lt.mpr (Nat.le_of_lt z))
  rcases Nat.eq_zero_or_pos items.size with hz | hne
  · have W := Walks.list (prog := prog) (w := w) (A := A.in1) hh s.heap.objs.size l hne2 items
    rw [hz] at W
    refine wpAny_pure ⟨plainId_quiet PySem.F.plain_max_loop _, mx_none d W s2.heap.objs.size hSf ⟨hi.at fun o e => Heap.get?_push_of_some _ e, hl2.push _⟩ (Heap.get?_push_size _ rfl) fun h' tk kp => ?_⟩
    have q := h d h' tk (.inl ⟨hz, rfl⟩) fun b o e => kp b o (ne1 b o e) (Heap.get?_push_of_some _ (k2 b o e))
    exact mk h' tk ▸ q
  · refine wpAny_pure ⟨plainId_quiet PySem.F.plain_max_loop _, mx_first s.heap _ (Walks.list (A := A.in1) hh _ l hne2 items) bt hcmp s2.heap.objs.size hSf (fresh_none (by omega)) (fun b hb => by cases List.mem_singleton.mp hb; exact fresh_none (Nat.le_refl _)) hne
      ⟨hi.at fun o e => Heap.get?_push_of_some _ e, hl2.push _⟩ (Heap.get?_push_size _ rfl) (fun b o e => Heap.get?_push_of_some _ (k2 b o e)) fun v h' tk pv kp => ?_⟩
    have q := h v h' tk (.inr ⟨hne, pv⟩) fun b o e => kp b o (ne1 b o e) (ne2 b o e) (Heap.get?_push_of_some _ (k2 b o e))
    exact mk h' tk ▸ q
end
end TT

-- R4
set_option Elab.async false
set_option linter.all false
set_option maxRecDepth 100000
set_option maxHeartbeats 1000000
namespace TT
open PySem PySem.Spec PyProof.Rows L2 Ob
theorem vals_three {x y z : V} {us : List Value} (r : Vals [x, y, z] us) : ∃ a b c, us = [a, b, c] ∧ L2.RelV x a ∧ L2.RelV y b ∧ L2.RelV z c := by
  cases r with
  | cons r1 t => cases t with
    | cons r2 t => cases t with
      | cons r3 t => cases t with
        | nil => exact ⟨_, _, _, rfl, r1, r2, r3⟩
theorem vals_int_at {ns : List Int} {its : List Value} (r : Vals (ns.map V.int) its) {i : Nat} {v : Value} (h : its[i]? = some v) : ∃ t, v = .int (ns.getD i 0) t ∧ i < ns.length := by
  have hl := r.length
  have hi := (List.getElem?_eq_some_iff.mp h).1
  have hn : i < ns.length := by rw [← hl, List.length_map] at hi; exact hi
  have e : (ns.map V.int)[i]? = some (V.int (ns.getD i 0)) := by
    rw [List.getElem?_map, List.getD_eq_getElem?_getD, List.getElem?_eq_getElem hn]
    rfl
  obtain ⟨u, h1, t, h2⟩ := Vals.get r e
  rw [h] at h1
  cases h1
  exact ⟨t, h2, hn⟩
theorem argBest_max (num : Nat → Int) (bt : Nat → Nat → Bool) (h1 : ∀ i j, bt i j = true → num j ≤ num i) (h2 : ∀ i j, bt i j = false → num i ≤ num j) : ∀ k, argBest bt k ≤ k ∧ ∀ j, j ≤ k → num j ≤ num (argBest bt k)
  | 0 => ⟨Nat.le_refl _, fun j hj => by
      have : j = 0 := by omega
      subst this
      exact Int.le_refl _⟩
  | k + 1 => by
    obtain ⟨a, b⟩ := argBest_max num bt h1 h2 k
    unfold argBest
    cases hb : bt (k + 1) (argBest bt k) with
    | true =>
      rw [if_pos rfl]
      refine ⟨Nat.le_refl _, fun j hj => ?_⟩
      rcases Nat.lt_or_ge j (k + 1) with q | q
      · exact Int.le_trans (b j (by omega)) (h1 _ _ hb)
      · have : j = k + 1 := by omega
        subst this
        exact Int.le_refl _
    | false =>
      rw [if_neg Bool.false_ne_true]
      refine ⟨by omega, fun j hj => ?_⟩
      rcases Nat.lt_or_ge j (k + 1) with q | q
      · exact b j (by omega)
      · have : j = k + 1 := by omega
        subst this
        exact h2 _ _ hb
section
variable {X : Cx}
def rMaxD (K : Fg) : List V → List V → Hp → VK → Prop := fun xs zs H Q => ∃ (a : Addr) (ns : List Int) (z : Int), xs = [V.ref a] ∧ zs = [V.int z] ∧ SqL K H a (ns.map V.int) ∧ ∀ m, (ns = [] ∧ m = z ∨ m ∈ ns ∧ ∀ k ∈ ns, k ≤ m) → Q (V.int m) H
theorem ck_maxD (hc : X.calm = true) : CallRK X (.builtin "max") ["default"] (rMaxD X.K) := by
  intro pins s σ H xs zs us ws Q I r rz h
  obtain ⟨a, ns, z, rfl, rfl, hs, q⟩ := h
  obtain ⟨its, rv, hl, hz⟩ := I.list hs
  rw [Vals.ref1 r]
  obtain ⟨w1, rfl, rw1⟩ := rz.one
  obtain ⟨t, rfl⟩ := (show ∃ t, w1 = Value.int z t from rw1)
  refine max_def (items := its.toArray) (Value.int z t) (I.ok.hd hc) hl.isList (fun i j => decide (ns.getD i 0 > ns.getD j 0)) (fun i j x y s2 Q2 E2 hx hy _ hq => ?_) fun v h' tk hv hk => ?_
  · exact CmpOf.ints_gt (prog := X.prog) (w := X.w) (A := X.A.in1) (P := fun i v => its.toArray[i]? = some v) (fun i => ns.getD i 0) (fun i v hv => by
      obtain ⟨t, e, _⟩ := vals_int_at rv (by simpa using hv)
      exact ⟨t, e⟩) i j x y s2 Q2 E2 hx hy hq
  · have hlen := rv.length
    rw [List.length_map] at hlen
    rcases hv with ⟨h0, rfl⟩ | ⟨h0, hv⟩
    · have e : ns = [] := List.length_eq_zero_iff.mp (by rw [hlen]; simpa using h0)
      exact ⟨.int z, H, I.kept hk, ⟨t, rfl⟩, q z (.inl ⟨e, rfl⟩)⟩
    · obtain ⟨t2, rfl, hlt⟩ := vals_int_at rv (by simpa using hv)
      obtain ⟨b1, b2⟩ := argBest_gt (fun i => ns.getD i 0) (its.toArray.size - 1)
      refine ⟨.int _, H, I.kept hk, ⟨t2, rfl⟩, q _ (.inr ⟨?_, fun k hk => ?_⟩)⟩
      · rw [List.getD_eq_getElem?_getD, List.getElem?_eq_getElem hlt]
        exact List.getElem_mem hlt
      · obtain ⟨i, hi, e⟩ := List.mem_iff_getElem.mp hk
        have e2 : ns.getD i 0 = k := by rw [List.getD_eq_getElem?_getD, List.getElem?_eq_getElem hi, ← e] <;> rfl
        rw [← e2]
        exact b2 i (by rw [List.size_toArray]; omega)
/-- a row for max: how long, is it a pin, where -/
def Row3 (K : Fg) (H : Hp) (v : V) (r : Int × Bool × Int) : Prop := ∃ p, v = V.ref p ∧ SqT K H p [V.int r.1, V.bl r.2.1, V.int r.2.2]
def gtRow (x y : Int × Bool × Int) : Bool := lexAt (fun j => match j with
  | 0 => x.1 == y.1
  | 1 => x.2.1 == y.2.1
  | _ => x.2.2 == y.2.2) (fun j => match j with
  | 0 => decide (y.1 < x.1)
  | 1 => decide (b2i x.2.1 > b2i y.2.1)
  | _ => decide (y.2.2 < x.2.2)) false 0 3
theorem gtRow_iff {x y : Int × Bool × Int} : (gtRow x y = true → y.1 ≤ x.1) ∧ (gtRow x y = false → x.1 ≤ y.1) := by
  unfold gtRow
  rw [lexAt_succ]
  by_cases h : x.1 = y.1
  · exact ⟨fun _ => by omega, fun _ => by omega⟩
  · simp only [beq_eq_false_iff_ne.mpr h, Bool.false_eq_true, if_false, decide_eq_true_eq, decide_eq_false_iff_not]
    exact ⟨fun _ => by omega, fun _ => by omega⟩
theorem rows_at {K : Fg} {H : Hp} : ∀ {vs : List V} {rs : List (Int × Bool × Int)} {i : Nat} {v : V}, Paired (Row3 K H) vs rs → vs[i]? = some v → ∃ r, rs[i]? = some r ∧ Row3 K H v r
  | _, _, i, v, .nil, e => by simp at e
  | _, _, 0, v, .cons r _, e => by simp at e; subst e; exact ⟨_, rfl, r⟩
  | _, _, i + 1, v, .cons _ t, e => by
    obtain ⟨y, h1, h2⟩ := rows_at (i := i) (v := v) t (by simpa using e)
    exact ⟨y, by simpa using h1, h2⟩
def rMaxR (K : Fg) : List V → Hp → VK → Prop := fun xs H Q => ∃ (a : Addr) (vs : List V) (rs : List (Int × Bool × Int)), xs = [V.ref a] ∧ SqL K H a vs ∧ Paired (Row3 K H) vs rs ∧ rs ≠ [] ∧
  ∀ v r, v ∈ vs → Row3 K H v r → r ∈ rs → (∀ r' ∈ rs, r'.1 ≤ r.1) → Q v H
theorem ck_maxR (hc : X.calm = true) (hu : X.A.units + 1 < cLine) : CallR X (.builtin "max") (rMaxR X.K) := by
  intro pins s σ H xs us Q I r h
  obtain ⟨a, vs, rs, rfl, hs, hp, hne, q⟩ := h
  obtain ⟨its, rv, hl, hz⟩ := I.list hs
  rw [Vals.ref1 r]
  have hlen := rv.length
  have hlen2 := Paired.length hp
  have at_ : ∀ {i : Nat} {v : Value}, its.toArray[i]? = some v → ∃ x r, vs[i]? = some x ∧ rs[i]? = some r ∧ Row3 X.K H x r ∧ L2.RelV x v := fun {i v} h => by
    have h : its[i]? = some v := by simpa using h
    have hi := (List.getElem?_eq_some_iff.mp h).1
    have hv : vs[i]? = some (vs[i]'(by omega)) := List.getElem?_eq_getElem (by omega)
    obtain ⟨u, e1, e2⟩ := Vals.get rv hv
    rw [h] at e1
    cases e1
    obtain ⟨r, e3, e4⟩ := rows_at hp hv
    exact ⟨_, r, hv, e3, e4, e2⟩
  have tup_ : ∀ {x : V} {r : Int × Bool × Int} {v : Value}, Row3 X.K H x r → L2.RelV x v → ∃ p t1 t2, v = .ref p ∧ s.heap.IsTuple p #[.int r.1 t1, .bool r.2.1, .int r.2.2 t2] := fun {x r v} h hr => by
    obtain ⟨p, rfl, hT⟩ := h
    obtain ⟨us, ru, ht, _⟩ := I.tuple hT
    cases (show v = Value.ref p from hr)
    obtain ⟨u1, u2, u3, rfl, r1, r2, r3⟩ := vals_three ru
    obtain ⟨t1, rfl⟩ := (show ∃ t, u1 = Value.int _ t from r1)
    obtain ⟨t2, rfl⟩ := (show ∃ t, u3 = Value.int _ t from r3)
    cases (show u2 = Value.bool _ from r2)
    exact ⟨p, t1, t2, rfl, ht⟩
  have hpos : 0 < its.toArray.size := by
    rw [List.size_toArray, ← hlen, hlen2]
    exact List.length_pos_iff.mpr hne
  refine max_of (items := its.toArray) (I.ok.hd hc) hl.isList (fun i j => gtRow (rs.getD i (0, false, 0)) (rs.getD j (0, false, 0))) (fun i j x y s2 Q2 E2 hx hy hk hq => ?_) hpos fun v h' tk hv hk => ?_
  · obtain ⟨x1, r1, _, e1, w1, v1⟩ := at_ hx
    obtain ⟨x2, r2, _, e2, w2, v2⟩ := at_ hy
    have g1 : rs.getD i (0, false, 0) = r1 := by rw [List.getD_eq_getElem?_getD, e1] <;> rfl
    have g2 : rs.getD j (0, false, 0) = r2 := by rw [List.getD_eq_getElem?_getD, e2] <;> rfl
    have hq : Q2 (.bool (gtRow (rs.getD i (0, false, 0)) (rs.getD j (0, false, 0)))) s2 := hq
    rw [g1, g2] at hq
    obtain ⟨p, t1, t2, rfl, hp1⟩ := tup_ w1 v1
    obtain ⟨p', t1', t2', rfl, hp2⟩ := tup_ w2 v2
    have k1 := hp1.at (h' := s2.heap) fun o e => hk _ o e
    have k2 := hp2.at (h' := s2.heap) fun o e => hk _ o e
    refine RcOp.tuples_gt (A := X.A.in1) (s := s2) k1 k2 hu (e := fun j => match j with
      | 0 => r1.1 == r2.1
      | 1 => r1.2.1 == r2.2.1
      | _ => r1.2.2 == r2.2.2) (r := fun j => match j with
      | 0 => decide (r2.1 < r1.1)
      | 1 => decide (b2i r1.2.1 > b2i r2.2.1)
      | _ => decide (r2.2.2 < r1.2.2)) (fun j h1 h2 => ?_) (fun j h1 h2 _ => ?_) X.prog X.w E2 Q2 hq
    · match j, h1, h2 with
      | 0, _, _ => exact SeqAt.EqAt.int_int _ _ _ _
      | 1, _, _ => exact SeqAt.EqAt.bool_bool _ _
      | 2, _, _ => exact SeqAt.EqAt.int_int _ _ _ _
    · match j, h1, h2 with
      | 0, _, _ => exact RcOp.gt_int _ _ _ _
      | 1, _, _ => exact fun prog w E Q h => PyProof.Rows.gt_bool h
      | 2, _, _ => exact RcOp.gt_int _ _ _ _
  · obtain ⟨x, r, e1, e2, w1, v1⟩ := at_ hv
    obtain ⟨b1, b2⟩ := argBest_max (fun i => (rs.getD i (0, false, 0)).1) _ (fun i j => gtRow_iff.1) (fun i j => gtRow_iff.2) (its.toArray.size - 1)
    refine ⟨x, H, I.kept hk, v1, q x r (List.mem_of_getElem? e1) w1 (List.mem_of_getElem? e2) fun r' hr' => ?_⟩
    obtain ⟨i, hi, e⟩ := List.mem_iff_getElem.mp hr'
    have e3 : rs.getD i (0, false, 0) = r' := by rw [List.getD_eq_getElem?_getD, List.getElem?_eq_getElem hi, ← e] <;> rfl
    have z := b2 i (by rw [List.size_toArray]; omega)
    rw [e3] at z
    have e4 : rs.getD (argBest (fun i j => gtRow (rs.getD i (0, false, 0)) (rs.getD j (0, false, 0))) (its.toArray.size - 1)) (0, false, 0) = r := by rw [List.getD_eq_getElem?_getD, e2] <;> rfl
    rw [e4] at z
    exact z
end
end TT

-- M17
set_option linter.all false
set_option maxRecDepth 10000
namespace Lad
theorem even1_len (t : Ti) : (evened1 t).length ≤ 2 := by
  unfold evened1
  repeat' split
  all_goals simp
theorem even_len (t : Ti) : (evened t).length ≤ 2 := by
  unfold evened
  split <;> exact even1_len _
theorem flat_len : ∀ ts : List Ti, (ts.flatMap evened).length ≤ 2 * ts.length
  | [] => by simp
  | t :: ts => by
    have h1 := even_len t
    have h2 := flat_len ts
    simp only [List.flatMap_cons, List.length_append, List.length_cons]
    omega
theorem flat_take {ts : List Ti} {i : Nat} {t : Ti} (h : ts[i]? = some t) : (ts.take (i + 1)).flatMap evened = (ts.take i).flatMap evened ++ evened t := by
  rw [List.take_add_one, h, List.flatMap_append]
  simp
theorem endOf_eq {ts : List Ti} {m : Int} (hp : ∀ t ∈ ts, 0 ≤ t.s + t.l) (h : (ts.map fun t => t.s + t.l) = [] ∧ m = 0 ∨ m ∈ (ts.map fun t => t.s + t.l) ∧ ∀ k ∈ (ts.map fun t => t.s + t.l), k ≤ m) : m = endOf ts := by
  rcases h with ⟨h1, rfl⟩ | ⟨h1, h2⟩
  · rw [List.map_eq_nil_iff] at h1
    subst h1
    rfl
  · obtain ⟨t, ht, rfl⟩ := List.mem_map.mp h1
    have a := endOf_ge ht
    have b : endOf ts ≤ t.s + t.l := endOf_at (hp t ht) fun u hu => h2 _ (List.mem_map.mpr ⟨u, hu, rfl⟩)
    omega
end Lad

-- W11
set_option Elab.async false
set_option linter.all false
set_option maxRecDepth 100000
set_option maxHeartbeats 4000000
namespace TT
open PySem PySem.Spec PyProof.Rows L2
section
variable {X : Cx} {K : Fg} {mg : Str → Option Value}
theorem get_tieK (c : Env K mg) (eK : X.K = K) (em : X.mg = mg) : GetR X "tie" (fun x H Q => ∃ t, LinkAt K H x t ∧ ∀ v, TieAt K H v t → Q v H) := by
  subst eK em
  exact get_tie c
theorem get_behindK (c : Env K mg) (eK : X.K = K) (em : X.mg = mg) (hr : Room 4 X.A) : GetR X "behind" (fun x H Q => ∃ t, LinkAt K H x t ∧ Q (V.int (t.s + t.l)) H) := by
  subst eK em
  exact get_behind c hr
theorem get_lengthK (c : Env K mg) (eK : X.K = K) (em : X.mg = mg) (hr : Room 2 X.A) : GetR X "length" (rTi K fun t => V.int t.l) := by
  subst eK em
  exact get_length c hr
end
theorem same_set {H0 H : Hp} {D : Addr} {o : HO} (s : Same H0 H) (h : H0 D = none) : Same H0 (upd H D o) := fun q u e => by
  rw [upd_ne (ne_of_none e h)]
  exact s _ _ e
theorem lt_line {n : Nat} (h : n ≤ 100000) : n < sizeLine := Nat.lt_of_le_of_lt h (by decide)
section
variable {P : Program} {w : World} {K : Fg} {mg : Str → Option Value} {base : Heap}
abbrev n_all_evened : List Str := ["links", "found", "broken", "link", "one"]
abbrev pr_all_evened : List Str := ["links"]
theorem sc_all_evened : FnScope n_all_evened pr_all_evened (defScope s_all_evened) := ⟨rfl, rfl, rfl, by decide +kernel, rfl, by decide +kernel, by decide +kernel⟩

structure GoodL (ts : List Lad.Ti) : Prop where
  n : ts.length ≤ 10000
  ok : ∀ t ∈ ts, Lad.Ok t
  x : ∃ x, Lad.Sat ts x ∧ Lad.Sat (ts.flatMap Lad.evened) x
def giveAll (K : Fg) (H : Hp) (Q : VK) (ts : List Lad.Ti) : Prop := ∀ p D vs H', Same H H' → H D = none → H' p = some (.tup [.ref D, .non]) → H' D = some (.lst vs) → Paired (LinkAt K H') vs ts → Q (.ref p) H'
def spAll (K : Fg) : Sp := fun vs H Q _ => ∃ a ws ts, vs = [V.ref a] ∧ H a = some (.lst ws) ∧ Paired (LinkAt K H) ws ts ∧ GoodL ts ∧ giveAll K H Q (ts.flatMap Lad.evened)
theorem ok_all_evened (c : Env K mg) : Pm P w K mg base 9 (d_all_evened.at_ K) (spAll K) := by
  obtain ⟨fd, F⟩ := fd_all_evened c
  refine .mk0 (F.ok sc_all_evened (ps := pr_all_evened) (by intro vs H Q E h; obtain ⟨_, _, _, rfl, _⟩ := h; rfl) fun cdv A outer s H vs Q E hr h => ?_) (FunD.bindsN F fun _ _ _ _ _ _ us hl => match us, hl with | [_], _ => rfl) F.kp
  obtain ⟨a, ws, ts, rfl, ha, hp, g, hQ⟩ := h
  refine ⟨_, (PSs.nox (pss_cons (ps_set (i := 1) sc_all_evened.nd rfl (Or.inl rfl) (pe_lst pa_nil))
    (pss_cons (ps_set (i := 2) sc_all_evened.nd rfl (Or.inl rfl) pe_non)
    (pss_cons (ps_for PassesOwn.never rfl (pi_list (pv 0)) (pg_name (i := 3) sc_all_evened.nd rfl (Or.inl rfl))
    (pss_one (ps_for PassesOwn.never rfl (pi_list (pe_callF (ok_evened c) (hr.mono (by decide)) rfl (g_evened c) (pa_cons (pv 3) pa_nil))) (pg_name (i := 4) sc_all_evened.nd rfl (Or.inl rfl))
    (pss_cons (ps_if (pt_val (pe_callF (ok_cannot_be c) (hr.mono (by decide)) rfl (g_cannot_be c) (pa_cons (pe_at (get_tie c) (pv 4)) pa_nil))) pss_never pss_nil)
    (pss_one (ps_expr (pe_bm PySem.F.plainAttrs_list PySem.F.slot_list_append PySem.F.type_list_append mt_append (pv 1) (pa_cons (pv 4) pa_nil))))))))
    (pss_one (ps_ret (pe_tup (pa_cons (pv 1) (pa_cons (pv 2) pa_nil))))))))), ?_⟩
  have hlen := pair_len hp
  obtain ⟨x, hx, hxe⟩ := g.x
  refine ⟨by show 0 ≤ sizeLine; decide, fun D hD => ?_⟩
  have s1 : Same H (upd H D (.lst [])) := same_upd hD
  refine ⟨_, rfl, a, rfl, ⟨ws, .of (s1 _ _ ha)⟩, for_it (walk_list (xs := ws)) (fun i σ H' => ∃ z1 z2 acc, σ = [some (.ref a), some (.ref D), some .non, z1, z2] ∧ H' D = some (.lst acc) ∧ Paired (LinkAt K H') acc ((ts.take i).flatMap Lad.evened) ∧ Same H H')
    ⟨_, _, [], rfl, upd_same, .nil, s1⟩ (fun i σ H' _ ⟨_, _, _, _, _, _, s⟩ => .of (s _ _ ha)) (fun i y σ H' H2 hi q hy => ?_) (fun σ H' q => ?_)⟩
  · obtain ⟨z1, z2, acc, rfl, hD1, pa, s2⟩ := q
    obtain ⟨rfl, hy⟩ := hy
    obtain ⟨t, ht, hl⟩ := pair_get hp hy
    have hmem := List.mem_of_getElem? ht
    refine ⟨_, rfl, y, t, rfl, hl.mono s2, g.ok t hmem, ⟨x, hx t hmem⟩, fun b us H3 s3 nb hb pb => ?_⟩
    have hlb := pair_len pb
    have he := Lad.even_len t
    have hf : ((ts.take i).flatMap Lad.evened).length ≤ 2 * i := by
      have := Lad.flat_len (ts.take i)
      have := List.length_take_le i ts
      omega
    have hla := pair_len pa
    have hin : i < ts.length := by omega
    have gn := g.n
    refine ⟨b, rfl, ⟨us, .of hb⟩, for_it (walk_list (xs := us)) (fun j σ H4 => ∃ z3, σ = [some (.ref a), some (.ref D), some .non, some y, z3] ∧ H4 D = some (.lst (acc ++ us.take j)) ∧ Paired (LinkAt K H4) (acc ++ us.take j) ((ts.take i).flatMap Lad.evened ++ (Lad.evened t).take j) ∧
      H4 b = some (.lst us) ∧ Paired (LinkAt K H4) us (Lad.evened t) ∧ Same H H4) ⟨_, rfl, ?_, ?_, hb, pb, s2.trans s3⟩ (fun j σ H4 _ ⟨_, _, _, _, h, _⟩ => .of h) (fun j y2 σ H4 H5 hj q hy2 => ?_) (fun σ H4 q => ?_)⟩
    · rw [List.take_zero, List.append_nil]; exact s3 _ _ hD1
    · rw [List.take_zero, List.append_nil, List.take_zero, List.append_nil]; exact pair_mono pa fun _ _ q => q.mono s3
    · obtain ⟨z3, rfl, hD4, pa4, hb4, pb4, s4⟩ := q
      obtain ⟨rfl, hy2⟩ := hy2
      obtain ⟨u, hu, hl2⟩ := pair_get pb4 hy2
      have humem := List.mem_of_getElem? hu
      have hux : ∃ x, Lad.Holds x u := ⟨x, hxe u (List.mem_flatMap.mpr ⟨t, hmem, humem⟩)⟩
      have hul : Lad.Ok u := Lad.even_all (g.ok t hmem) u humem
      obtain ⟨x2, hx2⟩ := hux
      have ne : b ≠ D := fun q => by rw [q, hD1] at nb; cases nb
      refine ⟨_, rfl, u, hl2, fun w hw => ⟨w, u, rfl, hw, _, rfl, ?_⟩⟩
      rw [Lad.cannot_no hx2 hul.l1]
      have htk : us.take j ++ [y2] = us.take (j + 1) := by rw [List.take_add_one, hy2]; rfl
      have htk2 : (Lad.evened t).take j ++ [u] = (Lad.evened t).take (j + 1) := by rw [List.take_add_one, hu]; rfl
      have xs := Xs.lst (ys := acc ++ us.take j ++ [y2]) hD4
      refine iteF ⟨_, rfl, .inl ⟨rfl, _, .of hD4⟩, _, rfl, D, _, _, rfl, rfl, hD4, lt_line ?_, ⟨_, rfl, ?_, ?_, ?_, ?_, ?_⟩⟩
      · rw [List.length_append, List.length_take]; omega
      · rw [upd_same, List.append_assoc, htk]
      · rw [← htk, ← htk2, ← List.append_assoc, ← List.append_assoc]
        exact pair_app (pair_mono pa4 fun _ _ q => q.xs xs) (.cons (hl2.xs xs) .nil)
      · rw [upd_ne ne]; exact hb4
      · exact pair_mono pb4 fun _ _ q => q.xs xs
      · exact same_set s4 hD
    · obtain ⟨z3, rfl, hD4, pa4, hb4, pb4, s4⟩ := q
      rw [List.take_length] at hD4 pa4
      rw [hlb, List.take_length, ← Lad.flat_take ht] at pa4
      exact ⟨_, _, _, rfl, hD4, pa4, s4⟩
  · obtain ⟨z1, z2, acc, rfl, hD1, pa, s2⟩ := q
    rw [hlen, List.take_length] at pa
    refine ⟨_, rfl, _, rfl, by show 2 ≤ sizeLine; decide, fun p np => ?_⟩
    exact hQ p D acc _ (s2.trans (same_upd np)) hD upd_same (same_upd np _ _ hD1) (pair_mono pa fun _ _ q => q.mono (same_upd np))
abbrev n_end_of : List Str := ["links", "link"]
abbrev pr_end_of : List Str := ["links"]
theorem sc_end_of : FnScope n_end_of pr_end_of (defScope s_end_of) := ⟨rfl, rfl, rfl, by decide +kernel, rfl, by decide +kernel, by decide +kernel⟩

def spEnd (K : Fg) : Sp := fun vs H Q _ => ∃ a ws ts, vs = [V.ref a] ∧ H a = some (.lst ws) ∧ Paired (LinkAt K H) ws ts ∧ ts.length ≤ 100000 ∧ (∀ t ∈ ts, 0 ≤ t.s + t.l) ∧ ∀ H', Same H H' → Q (V.int (Lad.endOf ts)) H'
theorem ok_end_of (c : Env K mg) : Pm P w K mg base 5 (d_end_of.at_ K) (spEnd K) := by
  obtain ⟨fd, F⟩ := fd_end_of c
  refine .mk0 (F.ok sc_end_of (ps := pr_end_of) (by intro vs H Q E h; obtain ⟨_, _, _, rfl, _⟩ := h; rfl) fun cdv A outer s H vs Q E hr h => ?_) (FunD.bindsN F fun _ _ _ _ _ _ us hl => match us, hl with | [_], _ => rfl) F.kp
  obtain ⟨a, ws, ts, rfl, ha, hp, hn, hpos, hQ⟩ := h
  have hlen := pair_len hp
  refine ⟨_, (PSs.nox (pss_one (ps_ret (pe_callBK (ck_maxD rfl) (by rfl) (f_max c) (by decide +kernel) (pa_cons (pe_lc (own := [("link", 1)]) (g := (gName 1)) (tt := tYes) (by rfl) sc_end_of.nd (pi_list (pv 0)) (blkOk_by (own := [("link", 1)]) (N := n_end_of) (sc := defScope s_end_of) (by decide +kernel)) (fun _ _ _ _ _ => (pg_name (i := 1) sc_end_of.nd rfl (Or.inl rfl))) (fun _ _ _ _ _ => pts_nil) (fun _ _ _ _ _ => (pe_at (get_behindK c rfl rfl (hr.mono (by decide))) (pv 1)))) pa_nil) (pk_cons pe_int pk_nil))))), ?_⟩
  refine ⟨_, rfl, a, rfl, ⟨ws, .of ha⟩, fun D hD => ?_⟩
  refine lc_it (walk_list (xs := ws)) (fun i H' => H' = upd H D (.lst (((ts.take i).map fun t => t.s + t.l).map V.int))) (by simp) (fun i H' _ e => ?_) (fun i y H' H2 hi e hy => ?_) (fun H' e => ?_)
  · rw [e]; exact .of (same_upd hD _ _ ha)
  · obtain ⟨rfl, hy⟩ := hy
    subst e
    obtain ⟨t, ht, hl⟩ := pair_get hp hy
    have htn := (List.getElem?_eq_some_iff.mp ht).1
    refine ⟨rfl, _, rfl, t, hl.mono (same_upd hD), _, upd_same, lt_line ?_, ?_⟩
    · rw [List.length_map, List.length_map, List.length_take]; omega
    · rw [upd_upd, List.take_add_one, ht, List.map_append, List.map_append]
      rfl
  · subst e
    rw [hlen, List.take_length]
    refine ⟨D, _, 0, rfl, rfl, .of upd_same, fun m hm => ?_⟩
    rw [Lad.endOf_eq hpos hm]
    exact hQ _ (same_upd hD)
end
end TT

-- W12
set_option Elab.async false
set_option linter.all false
set_option maxRecDepth 100000
set_option maxHeartbeats 4000000
namespace TT
open PySem PySem.Spec PyProof.Rows L2
theorem sqT_xs {K : Fg} {H H' : Hp} {a : Addr} {xs : List V} (e : Xs H H') (h : SqT K H a xs) : SqT K H' a xs := by
  rcases h with (h | ⟨o, h⟩) | h
  · exact .inl (.inl (e _ _ h fun _ q => by cases q))
  · exact .inl (.inr ⟨o, e _ _ h fun _ q => by cases q⟩)
  · exact .inr h
theorem Row3.xs {K : Fg} {H H' : Hp} {v : V} {r : Int × Bool × Int} (e : Xs H H') (h : Row3 K H v r) : Row3 K H' v r := by
  obtain ⟨p, ev, hT⟩ := h
  exact ⟨p, ev, sqT_xs e hT⟩
theorem cut_to {xs : List V} {k : Nat} (h : k ≤ xs.length) : cutV xs none (some (k : Int)) = xs.take k := by
  unfold cutV
  rw [HT.sIx_none, HT.sIx_nat, List.drop_zero]
  congr 1
  omega
theorem cut_from {xs : List V} {k : Nat} (h : k ≤ xs.length) : cutV xs (some (k : Int)) none = xs.drop k := by
  unfold cutV
  rw [HT.sIx_none, HT.sIx_nat, show min k xs.length = k by omega]
  exact List.take_of_length_le (by rw [List.length_drop]; omega)
section
variable {P : Program} {w : World} {K : Fg} {mg : Str → Option Value} {base : Heap}
/-- what one cut asks -/
structure StepGood (k : Lad.Ti) (ms : List Lad.Ti) (e : Int) : Prop where
  ok : Lad.Ok k
  okm : ∀ t ∈ ms, Lad.Ok t
  rd : ∀ t ∈ ms, Lad.ReadGood k t
  gl : GoodL (ms.map (Lad.readBy k))
  nn : ∀ u ∈ Lad.leftOf k ms, 0 ≤ u.s + u.l
  le : Lad.lowOf k ms ≤ e
abbrev n_cut_off : List Str := ["links", "end", "last", "at", "cutter", "low", "left", "broken", "link"]
abbrev pr_cut_off : List Str := ["links", "end"]
theorem sc_cut_off : FnScope n_cut_off pr_cut_off (defScope s_cut_off) := ⟨rfl, rfl, rfl, by decide +kernel, rfl, by decide +kernel, by decide +kernel⟩

def spCut (K : Fg) : Sp := fun vs H Q _ => ∃ a ws L e, vs = [V.ref a, V.int e] ∧ H a = some (.lst ws) ∧ Paired (LinkAt K H) ws L ∧ L.length ≤ 5000 ∧ (∃ t ∈ L, t.s + t.l = e) ∧
  (∀ A k Z, L = A ++ k :: Z → k.s + k.l = e → (∀ t ∈ A ++ Z, t.s + t.l = e → t.l ≤ k.l) → StepGood k (A ++ Z) e ∧
    ∀ p r D vk us H', Same H H' → H D = none → H' p = some (.tup [.ref r, .ref D, .non]) → H' r = some (.tup [V.int (Lad.lowOf k (A ++ Z)), V.int e, vk]) → LinkAt K H' vk k → H' D = some (.lst us) → Paired (LinkAt K H') us (Lad.nextOf k (A ++ Z) e) → Q (.ref p) H')
theorem ok_cut_off (c : Env K mg) : Pm P w K mg base 10 (d_cut_off.at_ K) (spCut K) := by
  obtain ⟨fd, F⟩ := fd_cut_off c
  refine .mk0 (F.ok sc_cut_off (ps := pr_cut_off) (by intro vs H Q E h; obtain ⟨_, _, _, _, rfl, _⟩ := h; rfl) fun cdv A0 outer s0 H vs Q E hr h => ?_) (FunD.bindsN F fun _ _ _ _ _ _ us hl => match us, hl with | [_, _], _ => rfl) F.kp
  obtain ⟨a, ws, L, e, rfl, ha, hp, hn, ⟨t0, ht0, he0⟩, hQ⟩ := h
  have hlen := pair_len hp
  refine ⟨_, (PSs.nox (pss_cons (ps_setLc (i := 2) (own := [("at", 3), ("link", 8)]) (g := (gTup _ 2 (gCons (gName 3) (gCons (gName 8) gNil)))) (tt := _) (by rfl) sc_cut_off.nd rfl rfl (sw_true rfl rfl rfl (by decide +kernel)) (pi_enum (by rfl) (f_enumerate c) (pa_cons (pv 0) pa_nil)) (blkOk_by (own := [("at", 3), ("link", 8)]) (N := n_cut_off) (sc := defScope s_cut_off) (by decide +kernel)) (fun _ _ _ _ _ => (pg_tup rfl (pgs_cons (pg_name (i := 3) sc_cut_off.nd rfl (Or.inl rfl)) (pgs_cons (pg_name (i := 8) sc_cut_off.nd rfl (Or.inl rfl)) pgs_nil)))) (fun _ _ _ _ _ => pts_one (pt_cmpR op_eq (pe_at (get_behindK c rfl rfl (hr.mono (by decide))) (pv 8)) (pv 1) (nomark _))) (fun _ _ _ _ _ => (pe_tup (pa_cons (pe_at (get_lengthK c rfl rfl (hr.mono (by decide))) (pe_at (get_tieK c rfl rfl) (pv 8))) (pa_cons (pe_callF (ok_is_pin c) (hr.mono (by decide)) rfl (g_is_pin c) (pa_cons (pe_at (get_tieK c rfl rfl) (pv 8)) pa_nil)) (pa_cons (pv 3) pa_nil))))))
    (pss_cons (ps_set (i := 3) sc_cut_off.nd rfl (Or.inl rfl) (pe_ix ix_tup (pe_callB (ck_maxR rfl (hu_of hr)) (by rfl) (f_max c) (by decide +kernel) (pa_cons (pv 2) pa_nil)) (pe_un un_neg pe_int) (fun _ _ => rfl)))
    (pss_cons (ps_set (i := 4) sc_cut_off.nd rfl (Or.inr rfl) (pe_ix ix_list (pv 0) (pv 3) (fun _ _ => rfl)))
    (pss_cons (ps_asg (pe_callF (ok_all_evened c) (hr.mono (by decide)) rfl (g_all_evened c) (pa_cons (pe_lc (own := [("link", 8)]) (g := (gName 8)) (tt := tYes) (by rfl) sc_cut_off.nd (pi_list (pe_lst (StX.pa_star (pe_slice sl_list (pv 0) po_none (po_some (pv 3))) (StX.pa_star (pe_slice sl_list (pv 0) (po_some (pe_op op_add (pv 3) pe_int)) po_none) pa_nil)))) (blkOk_by (own := [("link", 8)]) (N := n_cut_off) (sc := defScope s_cut_off) (by decide +kernel)) (fun _ _ _ _ _ => (pg_name (i := 8) sc_cut_off.nd rfl (Or.inl rfl))) (fun _ _ _ _ _ => pts_nil) (fun _ _ _ _ _ => (pe_callF (ok_read_through c) (hr.mono (by decide)) rfl (g_read_through c) (pa_cons (pv 4) (pa_cons (pv 8) pa_nil))))) pa_nil)) (pg_tup rfl (pgs_cons (pg_name (i := 6) sc_cut_off.nd rfl (Or.inl rfl)) (pgs_cons (pg_name (i := 7) sc_cut_off.nd rfl (Or.inl rfl)) pgs_nil))))
    (pss_cons (ps_set (i := 5) sc_cut_off.nd rfl (Or.inl rfl) (pe_callB (call_max2 rfl) (by rfl) (f_max c) (by decide +kernel) (pa_cons (pe_callF (ok_end_of c) (hr.mono (by decide)) rfl (g_end_of c) (pa_cons (pv 6) pa_nil)) (pa_cons (pe_callTy call_int1 (by rfl) (f_int c) (by decide +kernel) (pa_cons (pe_at (get_second c (hr.mono (by decide))) (pe_at (get_tie c) (pv 4))) pa_nil)) pa_nil))))
    (pss_one (ps_ret (pe_tup (pa_cons (pe_tup (pa_cons (pv 5) (pa_cons (pv 1) (pa_cons (pv 4) pa_nil)))) (pa_cons (pe_lst (StX.pa_star (pv 6) (StX.pa_star (pe_callF (ok_shortened c) (hr.mono (by decide)) rfl (g_shortened c) (pa_cons (pv 4) (pa_cons (pv 5) (pa_cons (pv 1) pa_nil)))) pa_nil))) (pa_cons (pv 7) pa_nil)))))))))))), ?_⟩
  refine ⟨_, rfl, a, ws, rfl, .of ha, fun D hD => ?_⟩
  have s1 : Same H (upd H D (.lst [])) := same_upd hD
  refine lc_it (walk_enum (xs := ws)) (fun i H' => ∃ acc rs, H' D = some (.lst acc) ∧ Paired (Row3 K H') acc rs ∧ (∀ r ∈ rs, ∃ j t, j < i ∧ L[j]? = some t ∧ t.s + t.l = e ∧ r = (t.l, t.isPin, (j : Int))) ∧
    (∀ (j : Nat) (t : Lad.Ti), j < i → L[j]? = some t → t.s + t.l = e → ∃ r ∈ rs, r.1 = t.l) ∧ acc.length ≤ i ∧ Same H H') ⟨[], [], upd_same, .nil, (fun _ h => nomatch h), (fun _ _ h => absurd h (Nat.not_lt_zero _)), Nat.le_refl _, s1⟩
    (fun i H' _ ⟨_, _, _, _, _, _, _, s⟩ => .of (s _ _ ha)) (fun i x H1 H2 hi q hy => ?_) (fun H1 q => ?_)
  · obtain ⟨acc, rs, hD1, pr, r1, r2, hacc, s2⟩ := q
    obtain ⟨T, xa, xb, rfl, hT, rfl, ex, ey⟩ := hy
    obtain rfl : V.int (i : Int) = xa := Option.some.inj ex
    obtain ⟨t, ht, hl⟩ := pair_get hp ey
    have s3 := s2.trans (same_upd (o := .tup [V.int (i : Int), xb]) hT)
    have hD3 := same_upd (o := .tup [V.int (i : Int), xb]) hT _ _ hD1
    have pr3 : Paired (Row3 K (upd H1 T (.tup [V.int (i : Int), xb]))) acc rs := pair_mono pr fun _ _ q => q.xs (.of (same_upd hT))
    have hT3 : (upd H1 T (.tup [V.int (i : Int), xb])) T = some (.tup [V.int (i : Int), xb]) := upd_same
    revert s3 hD3 pr3 hT3
    generalize upd H1 T (.tup [V.int (i : Int), xb]) = H3
    intro s3 hD3 pr3 hT3
    have hl3 := hl.mono s3
    refine ⟨T, _, rfl, .of hT3, rfl, _, _, rfl, _, _, rfl, rfl, rfl, _, rfl, t, hl3, _, rfl, rfl, _, rfl, ?_⟩
    by_cases he : t.s + t.l = e
    · rw [decide_eq_true (show V.int (t.s + t.l) = V.int e by rw [he])]
      refine iteT ⟨_, rfl, t, hl3, fun w hw => ⟨t, hw, _, rfl, t, hl3, fun w2 hw2 => ⟨w2, t, rfl, hw2, _, rfl, by show 3 ≤ sizeLine; decide, fun p hp => ?_⟩⟩⟩
      have s4 := s3.trans (same_upd (o := .tup [V.int t.l, V.bl t.isPin, V.int (i : Int)]) hp)
      have hD4 := same_upd (o := .tup [V.int t.l, V.bl t.isPin, V.int (i : Int)]) hp _ _ hD3
      have pr4 : Paired (Row3 K (upd H3 p (.tup [V.int t.l, V.bl t.isPin, V.int (i : Int)]))) acc rs := pair_mono pr3 fun _ _ q => q.xs (.of (same_upd hp))
      have hp4 : (upd H3 p (.tup [V.int t.l, V.bl t.isPin, V.int (i : Int)])) p = some (.tup [V.int t.l, V.bl t.isPin, V.int (i : Int)]) := upd_same
      revert s4 hD4 pr4 hp4
      generalize upd H3 p (.tup [V.int t.l, V.bl t.isPin, V.int (i : Int)]) = H4
      intro s4 hD4 pr4 hp4
      have xs := Xs.lst (ys := acc ++ [V.ref p]) hD4
      have gn : i < 100000 := by omega
      refine ⟨acc, hD4, lt_line (by omega), acc ++ [.ref p], rs ++ [(t.l, t.isPin, (i : Int))], upd_same, pair_app (pair_mono pr4 fun _ _ q => q.xs xs) (.cons ⟨p, rfl, sqT_xs xs (.of hp4)⟩ .nil), fun r hr => ?_, fun j u hj hu hue => ?_, by rw [List.length_append]; simp; omega, same_set s4 hD⟩
      · rcases List.mem_append.mp hr with hr | hr
        · obtain ⟨j, u, h1, h2⟩ := r1 r hr
          exact ⟨j, u, by omega, h2⟩
        · cases List.mem_singleton.mp hr
          exact ⟨i, t, by omega, ht, he, rfl⟩
      · by_cases hji : j = i
        · subst hji
          rw [ht] at hu
          cases hu
          exact ⟨_, List.mem_append_right _ (List.mem_singleton.mpr rfl), rfl⟩
        · obtain ⟨r, h1, h2⟩ := r2 j u (by omega) hu hue
          exact ⟨r, List.mem_append_left _ h1, h2⟩
    · rw [decide_eq_false (show ¬ V.int (t.s + t.l) = V.int e from fun q => he (V.int.inj q))]
      refine iteF ⟨acc, rs, hD3, pr3, fun r hr => ?_, fun j u hj hu hue => ?_, by omega, s3⟩
      · obtain ⟨j, u, h1, h2⟩ := r1 r hr
        exact ⟨j, u, by omega, h2⟩
      · by_cases hji : j = i
        · subst hji
          rw [ht] at hu
          cases hu
          exact absurd hue he
        · exact r2 j u (by omega) hu hue
  · obtain ⟨acc, rs, hD1, pr, r1, r2, hacc, s2⟩ := q
    obtain ⟨j0, hj0, ej0⟩ := List.mem_iff_getElem.mp ht0
    have hne : rs ≠ [] := fun q => by
      obtain ⟨r, h1, _⟩ := r2 j0 t0 (by omega) (by rw [List.getElem?_eq_getElem hj0, ej0]) he0
      rw [q] at h1
      cases h1
    refine ⟨_, rfl, D, acc, rs, rfl, .of hD1, pr, hne, fun v r hv hrow hr hmax => ?_⟩
    obtain ⟨at_, k, hat, hk, hke, rfl⟩ := r1 r hr
    obtain ⟨pp, rfl, hT⟩ := hrow
    have hatn : at_ < L.length := by omega
    have hsplit : L = L.take at_ ++ k :: L.drop (at_ + 1) := by
      have := List.take_append_drop at_ L
      rw [List.drop_eq_getElem_cons hatn] at this
      rw [List.getElem?_eq_getElem hatn] at hk
      rw [Option.some.inj hk] at this
      exact this.symm
    have hmax2 : ∀ t ∈ L.take at_ ++ L.drop (at_ + 1), t.s + t.l = e → t.l ≤ k.l := fun t ht hte => by
      have : t ∈ L := by
        rcases List.mem_append.mp ht with q | q
        · exact List.mem_of_mem_take q
        · exact List.mem_of_mem_drop q
      obtain ⟨j, hj, ej⟩ := List.mem_iff_getElem.mp this
      obtain ⟨r, h1, h2⟩ := r2 j t (by omega) (by rw [List.getElem?_eq_getElem hj, ej]) hte
      have := hmax r h1
      rw [h2] at this
      exact this
    obtain ⟨g, hQ⟩ := hQ _ _ _ hsplit hke hmax2
    have pms : Paired (LinkAt K H) (ws.take at_ ++ ws.drop (at_ + 1)) (L.take at_ ++ L.drop (at_ + 1)) := pair_app (pair_take _ hp) (pair_drop _ hp)
    have hmn : (L.take at_ ++ L.drop (at_ + 1)).length ≤ 5000 := by
      rw [List.length_append, List.length_take, List.length_drop]; omega
    clear hsplit hmax2 r1 r2 hmax
    revert pms hmn g hQ
    generalize hms : L.take at_ ++ L.drop (at_ + 1) = ms
    intro g hQ pms hmn
    refine ⟨_, rfl, pp, _, _, V.int (at_ : Int), rfl, rfl, hT, rfl, ?_⟩
    have hwat : ∃ vk, ws[at_]? = some vk ∧ LinkAt K H vk k := by
      have hv : ws[at_]? = some (ws[at_]'(by omega)) := List.getElem?_eq_getElem (by omega)
      obtain ⟨y, h1, h2⟩ := pair_get hp hv
      rw [hk] at h1
      cases h1
      exact ⟨_, hv, h2⟩
    obtain ⟨vk, hvk, lk⟩ := hwat
    refine ⟨_, rfl, _, rfl, a, ws, _, vk, rfl, rfl, .of (s2 _ _ ha), atI_nat hvk, ?_⟩
    -- the rest of the links
    refine ⟨_, rfl, _, rfl, _, rfl, a, ws, rfl, .of (s2 _ _ ha), fun p1 hp1 => ?_⟩
    rw [cut_to (by omega)]
    have s3 := s2.trans (same_upd (o := .lst (ws.take at_)) hp1)
    have q1 : (upd H1 p1 (.lst (ws.take at_))) p1 = some (.lst (ws.take at_)) := upd_same
    revert s3 q1
    generalize upd H1 p1 (.lst (ws.take at_)) = H3
    intro s3 q1
    refine ⟨p1, _, rfl, .inr (.of q1), _, rfl, _, rfl, _, _, rfl, rfl, _, rfl, a, ws, rfl, .of (s3 _ _ ha), fun p2 hp2 => ?_⟩
    rw [show ((at_ : Int) + 1) = ((at_ + 1 : Nat) : Int) by omega, cut_from (by omega)]
    have s4 := s3.trans (same_upd (o := .lst (ws.drop (at_ + 1))) hp2)
    have q2 : (upd H3 p2 (.lst (ws.drop (at_ + 1)))) p2 = some (.lst (ws.drop (at_ + 1))) := upd_same
    revert s4 q2
    generalize upd H3 p2 (.lst (ws.drop (at_ + 1))) = H4
    intro s4 q2
    have hwl := pair_len pms
    have e0 : ws.take at_ ++ (ws.drop (at_ + 1) ++ []) = ws.take at_ ++ ws.drop (at_ + 1) := by rw [List.append_nil]
    refine ⟨p2, _, rfl, .inr (.of q2), Nat.le_of_lt (lt_line (by rw [e0]; omega)), fun p3 hp3 => ?_⟩
    rw [e0]
    clear e0
    have s5 := s4.trans (same_upd (o := .lst (ws.take at_ ++ ws.drop (at_ + 1))) hp3)
    have q3 : (upd H4 p3 (.lst (ws.take at_ ++ ws.drop (at_ + 1)))) p3 = some (.lst (ws.take at_ ++ ws.drop (at_ + 1))) := upd_same
    revert s5 q3 pms hwl
    generalize upd H4 p3 (.lst (ws.take at_ ++ ws.drop (at_ + 1))) = H5
    generalize ws.take at_ ++ ws.drop (at_ + 1) = us
    intro pms hwl s5 q3
    refine ⟨p3, rfl, ⟨us, .of q3⟩, fun D2 hD2 => ?_⟩
    refine lc_it (walk_list (xs := us)) (fun i H' => ∃ acc, H' D2 = some (.lst acc) ∧ Paired (LinkAt K H') acc ((ms.take i).map (Lad.readBy k)) ∧ H' p3 = some (.lst us) ∧ Same H H') ⟨[], upd_same, .nil, same_upd hD2 _ _ q3, s5.trans (same_upd hD2)⟩
      (fun i H' _ ⟨_, _, _, h, _⟩ => .of h) (fun i y H6 H7 hi q hy => ?_) (fun H6 q => ?_)
    · obtain ⟨acc2, hD6, pa6, h36, s6⟩ := q
      obtain ⟨rfl, hy⟩ := hy
      obtain ⟨t, ht, hl⟩ := pair_get pms hy
      have hmem := List.mem_of_getElem? ht
      have hla := pair_len pa6
      rw [List.length_map, List.length_take] at hla
      refine ⟨rfl, _, rfl, _, rfl, _, _, k, t, rfl, lk.mono s6, hl.mono s6, g.ok, g.okm t hmem, g.rd t hmem, fun v8 H8 s8 l8 => ?_⟩
      have xs := Xs.lst (ys := acc2 ++ [v8]) (s8 _ _ hD6)
      refine ⟨acc2, s8 _ _ hD6, lt_line (by omega), acc2 ++ [v8], upd_same, ?_, ?_, same_set (s6.trans s8) (s5.free hD2)⟩
      · rw [List.take_add_one, ht, List.map_append]
        exact pair_app (pair_mono pa6 fun _ _ q => (q.mono s8).xs xs) (.cons (l8.xs xs) .nil)
      · rw [upd_ne (ne_of_none q3 hD2)]
        exact s8 _ _ h36
    · obtain ⟨acc2, hD6, pa6, h36, s6⟩ := q
      rw [hwl, List.take_length] at pa6
      have el : (ms.map (Lad.readBy k)).flatMap Lad.evened = Lad.leftOf k ms := rfl
      refine ⟨D2, acc2, _, rfl, hD6, pa6, g.gl, fun p7 D7 us7 H7 s7 n7 h7 hD7 pa7 => ?_⟩
      rw [el] at pa7
      have s67 := s6.trans s7
      have n7' : H D7 = none := s6.free n7
      refine ⟨p7, _, rfl, .of h7, rfl, _, _, rfl, _, _, rfl, rfl, ?_⟩
      have hl7 : (Lad.leftOf k ms).length ≤ 2 * ms.length := by
        have := Lad.flat_len (ms.map (Lad.readBy k))
        rw [List.length_map] at this
        exact this
      refine ⟨_, rfl, D7, us7, _, rfl, hD7, pa7, by omega, g.nn, fun H8 s8 => ?_⟩
      have lk8 := lk.mono (s67.trans s8)
      refine ⟨_, rfl, k, lk8, fun w hw => ⟨k, hw, .inl ⟨_, rfl, _, _, rfl, ?_⟩⟩⟩
      rw [mx]
      have elo : max (Lad.endOf (Lad.leftOf k ms)) k.s = Lad.lowOf k ms := rfl
      rw [elo]
      have hcl : k.s ≤ Lad.lowOf k ms := by rw [← elo]; exact Int.le_max_right _ _
      refine ⟨_, rfl, _, rfl, _, rfl, by show 3 ≤ sizeLine; decide, fun p9 hp9 => ?_⟩
      have s9 := (s67.trans s8).trans (same_upd (o := .tup [V.int (Lad.lowOf k ms), V.int e, vk]) hp9)
      have s79 := s8.trans (same_upd (o := .tup [V.int (Lad.lowOf k ms), V.int e, vk]) hp9)
      have q9 : (upd H8 p9 (.tup [V.int (Lad.lowOf k ms), V.int e, vk])) p9 = some (.tup [V.int (Lad.lowOf k ms), V.int e, vk]) := upd_same
      revert s9 q9 s79
      generalize upd H8 p9 (.tup [V.int (Lad.lowOf k ms), V.int e, vk]) = H9
      intro s9 s79 q9
      have hD9 := s79 _ _ hD7
      have pa9 := pair_mono pa7 fun _ _ (q : LinkAt K _ _ _) => q.mono s79
      refine ⟨_, rfl, D7, us7, rfl, .inr (.of hD9), _, rfl, _, rfl, _, rfl, _, k, _, e, rfl, lk.mono s9, g.ok, hcl, g.le, hke.symm, fun b us10 H10 s10 n10 hb10 pb10 => ?_⟩
      have l10 := pair_len pb10
      have l7 := pair_len pa7
      have lsh : (Lad.shortened k (Lad.lowOf k ms) e).length ≤ 1 := by unfold Lad.shortened; split <;> simp
      have e1 : us7 ++ (us10 ++ []) = us7 ++ us10 := by rw [List.append_nil]
      refine ⟨b, us10, rfl, .inr (.of hb10), Nat.le_of_lt (lt_line (by rw [e1, List.length_append]; omega)), fun p11 hp11 => ⟨_, rfl, by show 3 ≤ sizeLine; decide, fun p12 hp12 => ?_⟩⟩
      rw [e1] at hp12 ⊢
      have sA := same_upd (o := .lst (us7 ++ us10)) hp11
      have sB := same_upd (o := .tup [.ref p9, .ref p11, .non]) hp12
      refine hQ p12 p9 p11 vk (us7 ++ us10) _ (s9.trans (s10.trans (sA.trans sB))) (s9.free (s10.free hp11)) upd_same (sB _ _ (sA _ _ (s10 _ _ q9))) (lk.mono (s9.trans (s10.trans (sA.trans sB)))) (sB _ _ upd_same) ?_
      exact pair_app (pair_mono pa9 fun _ _ q => q.mono (s10.trans (sA.trans sB))) (pair_mono pb10 fun _ _ q => q.mono (sA.trans sB))
end
end TT

-- R5
set_option Elab.async false
set_option linter.all false
set_option maxRecDepth 100000
set_option maxHeartbeats 1000000
/-! a list and the empty list, compared -/
namespace TT
open PySem PySem.Spec PyProof.Rows L2
section
variable {X : Cx}
def rNil (K : Fg) (f : Bool → Bool) : R2 := fun x y H Q => ∃ (a b : Addr) (xs : List V), x = V.ref a ∧ y = V.ref b ∧ SqL K H a xs ∧ SqL K H b [] ∧ Q (V.bl (f xs.isEmpty)) H
theorem op_neNil (hu : X.A.units < cLine) : OpR X (compareOp .NotEq) (rNil X.K fun b => !b) := by
  intro pins s σ H x y v u Q I rx ry h
  obtain ⟨a, b, xs, rfl, rfl, ha, hb, q⟩ := h
  cases (show v = Value.ref a from rx)
  cases (show u = Value.ref b from ry)
  obtain ⟨its, rv, hl, _⟩ := I.list ha
  obtain ⟨its2, rv2, hl2, _⟩ := I.list hb
  have e2 : its2 = [] := List.length_eq_zero_iff.mp (by rw [← rv2.length]; rfl)
  subst e2
  have hlen := rv.length
  show wpAny (model X.prog X.w) X.A (richCompare .NotEq (.ref a) (.ref b)) _ _ s
  cases xs with
  | nil =>
    have e1 : its = [] := List.length_eq_zero_iff.mp (by rw [← hlen]; rfl)
    subst e1
    exact SeqAt.RcNeAt.lists (e := fun _ => true) hl.isList hl2.isList rfl hu (fun j h1 _ => absurd h1 (Nat.not_lt_zero _)) _ _ _ _ ⟨.bl false, H, I, rfl, q⟩
  | cons z zs =>
    refine SeqAt.RcNeAt.lists_lengths hl.isList hl2.isList ?_ hu _ _ _ _ ⟨.bl true, H, I, rfl, q⟩
    rw [List.size_toArray, ← hlen]
    rfl
theorem op_eqNil (hu : X.A.units < cLine) : OpR X (compareOp .Eq) (rNil X.K fun b => b) := by
  intro pins s σ H x y v u Q I rx ry h
  obtain ⟨a, b, xs, rfl, rfl, ha, hb, q⟩ := h
  cases (show v = Value.ref a from rx)
  cases (show u = Value.ref b from ry)
  obtain ⟨its, rv, hl, _⟩ := I.list ha
  obtain ⟨its2, rv2, hl2, _⟩ := I.list hb
  have e2 : its2 = [] := List.length_eq_zero_iff.mp (by rw [← rv2.length]; rfl)
  subst e2
  have hlen := rv.length
  show wpAny (model X.prog X.w) X.A (richCompare .Eq (.ref a) (.ref b)) _ _ s
  cases xs with
  | nil =>
    have e1 : its = [] := List.length_eq_zero_iff.mp (by rw [← hlen]; rfl)
    subst e1
    exact SeqAt.RcAt.lists (e := fun _ => true) hl.isList hl2.isList rfl hu (fun j h1 _ => absurd h1 (Nat.not_lt_zero _)) _ _ _ _ ⟨.bl true, H, I, rfl, q⟩
  | cons z zs =>
    refine SeqAt.RcAt.lists_lengths hl.isList hl2.isList ?_ hu _ _ _ _ ⟨.bl false, H, I, rfl, q⟩
    rw [List.size_toArray, ← hlen]
    rfl
end
end TT

-- W13
set_option Elab.async false
set_option linter.all false
set_option maxRecDepth 100000
set_option maxHeartbeats 4000000
namespace TT
open PySem PySem.Spec PyProof.Rows L2
/-! ### rows_by -/
def CutAt (K : Fg) (H : Hp) (v : V) (k : Lad.Cut) : Prop := ∃ r vk, v = V.ref r ∧ H r = some (.tup [V.int k.lo, V.int k.hi, vk]) ∧ LinkAt K H vk k.c
theorem CutAt.mono {K : Fg} {H H' : Hp} {v : V} {k : Lad.Cut} (h : CutAt K H v k) (e : Same H H') : CutAt K H' v k := by
  obtain ⟨r, vk, ev, h1, h2⟩ := h
  exact ⟨r, vk, ev, e _ _ h1, h2.mono e⟩
theorem CutAt.xs {K : Fg} {H H' : Hp} {v : V} {k : Lad.Cut} (h : CutAt K H v k) (e : Xs H H') : CutAt K H' v k := by
  obtain ⟨r, vk, ev, h1, h2⟩ := h
  exact ⟨r, vk, ev, e _ _ h1 (fun _ q => by cases q), h2.xs e⟩
/-- what the loop keeps -/
structure Rows (I : List Lad.Ti → List Lad.Cut → Int → Prop) : Prop where
  e0 : ∀ {L C e}, I L C e → 0 ≤ e
  ln : ∀ {L C e}, I L C e → L.length ≤ 5000 ∧ C.length ≤ 1000
  ok : ∀ {L C e}, I L C e → ∀ t ∈ L, Lad.Ok t
  le : ∀ {L C e}, I L C e → Lad.endOf L ≤ e
  at_ : ∀ {L C e}, I L C e → L ≠ [] → ∃ t ∈ L, t.s + t.l = Lad.endOf L
  zero : ∀ {C e}, I [] C e → I [] C 0
  step : ∀ {L C e A k Z}, I L C e → L = A ++ k :: Z → k.s + k.l = Lad.endOf L → (∀ t ∈ A ++ Z, t.s + t.l = Lad.endOf L → t.l ≤ k.l) →
    StepGood k (A ++ Z) (Lad.endOf L) ∧ I (Lad.nextOf k (A ++ Z) (Lad.endOf L)) (C ++ [⟨Lad.lowOf k (A ++ Z), Lad.endOf L, k⟩]) (Lad.lowOf k (A ++ Z)) ∧ Lad.lowOf k (A ++ Z) < Lad.endOf L
def endSlot (σ : L2.St) : Nat := match σ[4]? with
  | some (some (V.int e)) => e.toNat
  | _ => 0
section
variable {P : Program} {w : World} {K : Fg} {mg : Str → Option Value} {base : Heap}
abbrev n_rows_by : List Str := ["size", "links", "cuts", "parts", "end", "left", "broken", "low", "row"]
abbrev pr_rows_by : List Str := ["size", "links"]
theorem sc_rows_by : FnScope n_rows_by pr_rows_by (defScope s_rows_by) := ⟨rfl, rfl, rfl, by decide +kernel, rfl, by decide +kernel, by decide +kernel⟩

def spRows (K : Fg) : Sp := fun vs H Q _ => ∃ size a ws T0 I, vs = [V.int size, V.ref a] ∧ H a = some (.lst ws) ∧ Paired (LinkAt K H) ws T0 ∧ GoodL T0 ∧ Rows I ∧ I (T0.flatMap Lad.evened) [] size ∧
  ∀ p Cu Pa acc pacc L C e H', Same H H' → H' p = some (.tup [.ref Cu, .ref Pa, .non]) → H' Cu = some (.lst acc) → H' Pa = some (.lst pacc) → Paired (CutAt K H') acc C → I L C e → e ≤ 0 → Q (.ref p) H'
structure RSt (K : Fg) (I : List Lad.Ti → List Lad.Cut → Int → Prop) (H : Hp) (size : Int) (a Cu Pa : Addr) (σ : L2.St) (H' : Hp) (L : List Lad.Ti) (C : List Lad.Cut) (e : Int) (acc pacc uL : List V) (DL : Addr) (z7 z8 : Option V) : Prop where
  sg : σ = [some (.int size), some (.ref a), some (.ref Cu), some (.ref Pa), some (.int e), some (.ref DL), some .non, z7, z8]
  cu : H' Cu = some (.lst acc)
  pa : H' Pa = some (.lst pacc)
  dl : H' DL = some (.lst uL)
  pl : Paired (LinkAt K H') uL L
  pc : Paired (CutAt K H') acc C
  inv : I L C e
  sm : Same H H'
  n1 : DL ≠ Cu
  n2 : DL ≠ Pa
  pn : pacc.length ≤ C.length ∨ (e ≤ 0 ∧ pacc.length ≤ C.length + 1)
theorem ok_rows_by (c : Env K mg) : Pm P w K mg base 11 (d_rows_by.at_ K) (spRows K) := by
  obtain ⟨fd, F⟩ := fd_rows_by c
  refine .mk0 (F.ok sc_rows_by (ps := pr_rows_by) (by intro vs H Q E h; obtain ⟨_, _, _, _, _, rfl, _⟩ := h; rfl) fun cdv A0 outer s0 H vs Q E hr h => ?_) (FunD.bindsN F fun _ _ _ _ _ _ us hl => match us, hl with | [_, _], _ => rfl) F.kp
  obtain ⟨size, a, ws, T0, I, rfl, ha, hp, g, R, I0, hQ⟩ := h
  refine ⟨_, (PSs.nox (pss_cons (ps_set (i := 2) sc_rows_by.nd rfl (Or.inl rfl) (pe_lst pa_nil))
    (pss_cons (ps_set (i := 3) sc_rows_by.nd rfl (Or.inl rfl) (pe_lst pa_nil))
    (pss_cons (ps_asg (pe_callF (ok_all_evened c) (hr.mono (by decide)) rfl (g_all_evened c) (pa_cons (pv 1) pa_nil)) (pg_tup rfl (pgs_cons (pg_name (i := 5) sc_rows_by.nd rfl (Or.inl rfl)) (pgs_cons (pg_name (i := 6) sc_rows_by.nd rfl (Or.inl rfl)) pgs_nil))))
    (pss_cons (ps_set (i := 4) sc_rows_by.nd rfl (Or.inl rfl) (pv 0))
    (pss_cons (ps_while PassesOwn.never (PW.pt (pw_and (pt_cmpR op_isN (pv 6) pe_non (nomark _)) (pw_and1 (pt_cmpR op_gt (pv 4) pe_int (nomark _)))))
    (pss_cons (ps_set (i := 7) sc_rows_by.nd rfl (Or.inl rfl) (pe_callF (ok_end_of c) (hr.mono (by decide)) rfl (g_end_of c) (pa_cons (pv 5) pa_nil)))
    (pss_cons (ps_if (pt_cmpR op_lt (pv 7) (pv 4) (nomark _)) (pss_one (ps_expr (pe_bm PySem.F.plainAttrs_list PySem.F.slot_list_append PySem.F.type_list_append mt_append (pv 3) (pa_cons (pe_tup (pa_cons (pv 7) (pa_cons (pe_op op_sub (pv 4) (pv 7)) pa_nil))) pa_nil)))) pss_nil)
    (pss_cons (ps_set (i := 4) sc_rows_by.nd rfl (Or.inl rfl) (pv 7))
    (pss_one (ps_if (pt_cmpR (op_neNil hr.units0) (pv 5) (pe_lst pa_nil) (nomark _)) (pss_cons (ps_asg (pe_callF (ok_cut_off c) (hr.mono (by decide)) rfl (g_cut_off c) (pa_cons (pv 5) (pa_cons (pv 4) pa_nil))) (pg_tup rfl (pgs_cons (pg_name (i := 8) sc_rows_by.nd rfl (Or.inl rfl)) (pgs_cons (pg_name (i := 5) sc_rows_by.nd rfl (Or.inl rfl)) (pgs_cons (pg_name (i := 6) sc_rows_by.nd rfl (Or.inl rfl)) pgs_nil)))))
    (pss_cons (ps_expr (pe_bm PySem.F.plainAttrs_list PySem.F.slot_list_append PySem.F.type_list_append mt_append (pv 2) (pa_cons (pv 8) pa_nil)))
    (pss_one (ps_set (i := 4) sc_rows_by.nd rfl (Or.inl rfl) (pe_ix ix_tup (pv 8) pe_int (fun _ _ => rfl)))))) pss_nil))))))
    (pss_one (ps_ret (pe_tup (pa_cons (pv 2) (pa_cons (pv 3) (pa_cons (pv 6) pa_nil)))))))))))), ?_⟩
  refine ⟨by show 0 ≤ sizeLine; decide, fun Cu hCu => ⟨by show 0 ≤ sizeLine; decide, fun Pa hPa => ?_⟩⟩
  have s1 := same_upd (o := .lst []) hCu
  have s2 := s1.trans (same_upd (o := .lst []) hPa)
  have hCP : Cu ≠ Pa := fun q => by rw [← q, upd_same] at hPa; cases hPa
  have hPa0 : H Pa = none := s1.free hPa
  have c2 : (upd (upd H Cu (.lst [])) Pa (.lst [])) Cu = some (.lst []) := by rw [upd_ne hCP]; exact upd_same
  have p2 : (upd (upd H Cu (.lst [])) Pa (.lst [])) Pa = some (.lst []) := upd_same
  revert s2 c2 p2
  generalize upd (upd H Cu (.lst [])) Pa (.lst []) = H2
  intro s2 c2 p2
  refine ⟨_, rfl, a, ws, T0, rfl, s2 _ _ ha, pair_mono hp fun _ _ q => q.mono s2, g, fun p3 D us H3 s3 nD h3 hD pD => ?_⟩
  refine ⟨p3, _, rfl, .of h3, rfl, _, _, rfl, _, _, rfl, rfl, _, rfl, ?_⟩
  have st0 : RSt K I H size a Cu Pa [some (.int size), some (.ref a), some (.ref Cu), some (.ref Pa), some (.int size), some (.ref D), some .non, none, none] H3 (T0.flatMap Lad.evened) [] size [] [] us D none none :=
    ⟨rfl, s3 _ _ c2, s3 _ _ p2, hD, pD, .nil, I0, s2.trans s3, (fun q => by rw [q, c2] at nD; cases nD), (fun q => by rw [q, p2] at nD; cases nD), .inl (Nat.le_refl _)⟩
  refine while_by (fun σ H' => ∃ L C e acc pacc uL DL z7 z8, RSt K I H size a Cu Pa σ H' L C e acc pacc uL DL z7 z8) (fun σ _ => endSlot σ) ⟨_, _, _, _, _, _, _, _, _, st0⟩ (fun σ H4 q => ?_) (fun σ H' Q1 Q2 m q => ?_)
  · obtain ⟨L, C, e, acc, pacc, uL, DL, z7, z8, q⟩ := q
    obtain rfl := q.sg
    refine ⟨_, rfl, rfl, _, rfl, iteT ⟨_, rfl, _, _, rfl, rfl, _, rfl, ?_⟩⟩
    obtain ⟨hl5, hc1⟩ := R.ln q.inv
    have hok := R.ok q.inv
    have lu := pair_len q.pl
    have lc := pair_len q.pc
    by_cases he : 0 < e
    · rw [decide_eq_true he]
      refine iteT ⟨_, rfl, DL, uL, L, rfl, q.dl, q.pl, by omega, fun t ht => by have := (hok t ht).s0; have := (hok t ht).l1; omega, fun H5 s5 => ?_⟩
      have hle := R.le q.inv
      have hpl : pacc.length ≤ C.length := by
        rcases q.pn with h | h
        · exact h
        · omega
      refine ⟨_, rfl, _, rfl, _, _, rfl, rfl, _, rfl, ?_⟩
      have c5 := s5 _ _ q.cu
      have p5 := s5 _ _ q.pa
      have d5 := s5 _ _ q.dl
      by_cases hlt : Lad.endOf L < e
      · rw [decide_eq_true hlt]
        refine iteT ⟨_, rfl, .inl ⟨rfl, _, .of p5⟩, _, rfl, _, rfl, _, rfl, _, _, rfl, rfl, by show 2 ≤ sizeLine; decide, fun pT nT => ⟨Pa, _, _, rfl, rfl, same_upd nT _ _ p5, lt_line (by omega), ?_⟩⟩
        have sT := same_upd (o := .tup [V.int (Lad.endOf L), V.int (e - Lad.endOf L)]) nT
        have x6 := (Xs.of sT).trans (Xs.lst (ys := pacc ++ [.ref pT]) (sT _ _ p5))
        have s6 := same_set (o := .lst (pacc ++ [.ref pT])) ((q.sm.trans s5).trans sT) hPa0
        have c6 : (upd (upd H5 pT (.tup [V.int (Lad.endOf L), V.int (e - Lad.endOf L)])) Pa (.lst (pacc ++ [.ref pT]))) Cu = some (.lst acc) := by rw [upd_ne hCP]; exact sT _ _ c5
        have d6 : (upd (upd H5 pT (.tup [V.int (Lad.endOf L), V.int (e - Lad.endOf L)])) Pa (.lst (pacc ++ [.ref pT]))) DL = some (.lst uL) := by rw [upd_ne q.n2]; exact sT _ _ d5
        have p6 : (upd (upd H5 pT (.tup [V.int (Lad.endOf L), V.int (e - Lad.endOf L)])) Pa (.lst (pacc ++ [.ref pT]))) Pa = some (.lst (pacc ++ [.ref pT])) := upd_same
        have hpn : (pacc ++ [V.ref pT]).length ≤ C.length + 1 := by rw [List.length_append]; simp only [List.length_cons, List.length_nil]; omega
        revert x6 s6 c6 d6 p6
        generalize upd (upd H5 pT (.tup [V.int (Lad.endOf L), V.int (e - Lad.endOf L)])) Pa (.lst (pacc ++ [.ref pT])) = H6
        intro x6 s6 c6 d6 p6
        have pl6 := pair_mono q.pl fun _ _ y => (y.mono s5).xs x6
        have pc6 := pair_mono q.pc fun _ _ y => (y.mono s5).xs x6
        refine ⟨_, rfl, _, rfl, by show 0 ≤ sizeLine; decide, fun pE nE => ⟨DL, pE, uL, rfl, rfl, .of (same_upd nE _ _ d6), .of upd_same, _, rfl, ?_⟩⟩
        have sE := same_upd (o := .lst []) nE
        have c7 := sE _ _ c6
        have p7 := sE _ _ p6
        have d7 := sE _ _ d6
        have s7 := s6.trans sE
        have pl7 := pair_mono pl6 fun _ _ y => y.mono sE
        have pc7 := pair_mono pc6 fun _ _ y => y.mono sE
        revert c7 p7 d7 s7 pl7 pc7
        generalize upd _ pE (.lst []) = H7
        intro c7 p7 d7 s7 pl7 pc7
        cases uL with
        | nil =>
          have eL : L = [] := List.length_eq_zero_iff.mp (by rw [← lu]; rfl)
          subst eL
          have inv0 := R.zero q.inv
          refine iteF ⟨⟨[], C, 0, acc, (pacc ++ [.ref pT]), [], DL, _, _, rfl, c7, p7, d7, pl7, pc7, inv0, s7, q.n1, q.n2, .inr ⟨Int.le_refl _, hpn⟩⟩, ?_⟩
          show (0 : Int).toNat < e.toNat
          omega
        | cons y ys =>
          have eL : L ≠ [] := fun z => by rw [z] at lu; cases lu
          refine iteT ⟨_, rfl, _, rfl, DL, y :: ys, L, Lad.endOf L, rfl, d7, pl7, hl5, R.at_ q.inv eL, fun A k Z eA ek mk => ?_⟩
          obtain ⟨sg, i2, lt⟩ := R.step q.inv eA ek mk
          refine ⟨sg, fun p8 r8 D8 vk us8 H8 s8 n8 hp8 hr8 lk8 hD8 pD8 => ?_⟩
          refine ⟨p8, _, rfl, .of hp8, rfl, _, _, rfl, _, _, rfl, _, _, rfl, rfl, ?_⟩
          have c8 := s8 _ _ c7
          have p9 := s8 _ _ p7
          have xs := Xs.lst (ys := acc ++ [.ref r8]) c8
          have nd1 : D8 ≠ Cu := fun z => by rw [z, c7] at n8; cases n8
          have nd2 : D8 ≠ Pa := fun z => by rw [z, p7] at n8; cases n8
          refine ⟨_, rfl, .inl ⟨rfl, _, .of c8⟩, _, rfl, Cu, _, _, rfl, rfl, c8, lt_line (by omega), ?_⟩
          refine ⟨_, rfl, r8, _, _, _, rfl, rfl, .of (xs _ _ hr8 fun _ z => by cases z), rfl, ?_⟩
          have xr := xs _ _ hr8 fun _ z => by cases z
          refine ⟨⟨_, C ++ [⟨Lad.lowOf k (A ++ Z), Lad.endOf L, k⟩], Lad.lowOf k (A ++ Z), acc ++ [.ref r8], (pacc ++ [.ref pT]), us8, D8, _, _, rfl, upd_same, ?_, ?_, ?_, ?_, i2, ?_, nd1, nd2, ?_⟩, ?_⟩
          · rw [upd_ne (Ne.symm hCP)]; exact p9
          · rw [upd_ne nd1]; exact hD8
          · exact pair_mono pD8 fun _ _ z => z.xs xs
          · exact pair_app (pair_mono pc7 fun _ _ z => (z.mono s8).xs xs) (.cons ⟨r8, vk, rfl, xr, lk8.xs xs⟩ .nil)
          · exact same_set (s7.trans s8) hCu
          · left; rw [List.length_append (as := C)]; exact hpn
          · show (Lad.lowOf k (A ++ Z)).toNat < e.toNat
            have := R.e0 i2
            omega
      · rw [decide_eq_false hlt]
        refine iteF ?_
        have x6 := Xs.refl H5
        have s6 := q.sm.trans s5
        have c6 := c5
        have d6 := d5
        have p6 := p5
        have hpn : pacc.length ≤ C.length + 1 := by omega
        have pl6 := pair_mono q.pl fun _ _ y => (y.mono s5).xs x6
        have pc6 := pair_mono q.pc fun _ _ y => (y.mono s5).xs x6
        refine ⟨_, rfl, _, rfl, by show 0 ≤ sizeLine; decide, fun pE nE => ⟨DL, pE, uL, rfl, rfl, .of (same_upd nE _ _ d6), .of upd_same, _, rfl, ?_⟩⟩
        have sE := same_upd (o := .lst []) nE
        have c7 := sE _ _ c6
        have p7 := sE _ _ p6
        have d7 := sE _ _ d6
        have s7 := s6.trans sE
        have pl7 := pair_mono pl6 fun _ _ y => y.mono sE
        have pc7 := pair_mono pc6 fun _ _ y => y.mono sE
        revert c7 p7 d7 s7 pl7 pc7
        generalize upd _ pE (.lst []) = H7
        intro c7 p7 d7 s7 pl7 pc7
        cases uL with
        | nil =>
          have eL : L = [] := List.length_eq_zero_iff.mp (by rw [← lu]; rfl)
          subst eL
          have inv0 := R.zero q.inv
          refine iteF ⟨⟨[], C, 0, acc, pacc, [], DL, _, _, rfl, c7, p7, d7, pl7, pc7, inv0, s7, q.n1, q.n2, .inr ⟨Int.le_refl _, hpn⟩⟩, ?_⟩
          show (0 : Int).toNat < e.toNat
          omega
        | cons y ys =>
          have eL : L ≠ [] := fun z => by rw [z] at lu; cases lu
          refine iteT ⟨_, rfl, _, rfl, DL, y :: ys, L, Lad.endOf L, rfl, d7, pl7, hl5, R.at_ q.inv eL, fun A k Z eA ek mk => ?_⟩
          obtain ⟨sg, i2, lt⟩ := R.step q.inv eA ek mk
          refine ⟨sg, fun p8 r8 D8 vk us8 H8 s8 n8 hp8 hr8 lk8 hD8 pD8 => ?_⟩
          refine ⟨p8, _, rfl, .of hp8, rfl, _, _, rfl, _, _, rfl, _, _, rfl, rfl, ?_⟩
          have c8 := s8 _ _ c7
          have p9 := s8 _ _ p7
          have xs := Xs.lst (ys := acc ++ [.ref r8]) c8
          have nd1 : D8 ≠ Cu := fun z => by rw [z, c7] at n8; cases n8
          have nd2 : D8 ≠ Pa := fun z => by rw [z, p7] at n8; cases n8
          refine ⟨_, rfl, .inl ⟨rfl, _, .of c8⟩, _, rfl, Cu, _, _, rfl, rfl, c8, lt_line (by omega), ?_⟩
          refine ⟨_, rfl, r8, _, _, _, rfl, rfl, .of (xs _ _ hr8 fun _ z => by cases z), rfl, ?_⟩
          have xr := xs _ _ hr8 fun _ z => by cases z
          refine ⟨⟨_, C ++ [⟨Lad.lowOf k (A ++ Z), Lad.endOf L, k⟩], Lad.lowOf k (A ++ Z), acc ++ [.ref r8], pacc, us8, D8, _, _, rfl, upd_same, ?_, ?_, ?_, ?_, i2, ?_, nd1, nd2, ?_⟩, ?_⟩
          · rw [upd_ne (Ne.symm hCP)]; exact p9
          · rw [upd_ne nd1]; exact hD8
          · exact pair_mono pD8 fun _ _ z => z.xs xs
          · exact pair_app (pair_mono pc7 fun _ _ z => (z.mono s8).xs xs) (.cons ⟨r8, vk, rfl, xr, lk8.xs xs⟩ .nil)
          · exact same_set (s7.trans s8) hCu
          · left; rw [List.length_append (as := C)]; exact hpn
          · show (Lad.lowOf k (A ++ Z)).toNat < e.toNat
            have := R.e0 i2
            omega
    · rw [decide_eq_false he]
      refine iteF ⟨_, rfl, _, rfl, _, rfl, by show 3 ≤ sizeLine; decide, fun p np => ?_⟩
      have sp := same_upd (o := .tup [.ref Cu, .ref Pa, .non]) np
      exact hQ p Cu Pa acc pacc L C e _ (q.sm.trans sp) upd_same (sp _ _ q.cu) (sp _ _ q.pa) (pair_mono q.pc fun _ _ y => y.mono sp) q.inv (by omega)
  · obtain ⟨v, h1, h2, k, h3, h4⟩ := q
    refine ⟨v, h1, h2, k, h3, ?_⟩
    cases k with
    | true =>
      obtain ⟨v2, g1, i, j, g2, g3, k2, g4, g5⟩ := h4
      exact ⟨v2, g1, i, j, g2, g3, k2, g4, m _ _ g5⟩
    | false => exact m _ _ h4
end
end TT

-- M18
set_option linter.all false
set_option maxRecDepth 10000
namespace Lad
/-! ### the walk down a ladder, as it is made -/
def walkC : List Cut → Int → List (Ti × Int × Int) × Int
  | [], q => ([], q)
  | k :: C, q => if k.has q then ((k.c, k.c.rounds q k.lo, q) :: (walkC C (if k.c.isPin then q else k.dest q)).1, (walkC C (if k.c.isPin then q else k.dest q)).2) else walkC C q
def readR : List (Ti × Int × Int) → Int → Int → Bool → Ans
  | [], r, v, d => .hang d r v
  | x :: xs, r, v, d => if x.1.isPin then .told (if d then v - x.1.a / 2 else v + x.1.a / 2) else readR xs r (if d then v - x.1.oftA x.2.1 else v + x.1.oftA x.2.1) (d != x.1.oftD x.2.1)
theorem read_walk : ∀ (C : List Cut) (q v : Int) (d : Bool), readR (walkC C q).1 (walkC C q).2 v d = readC C q v d
  | [], q, v, d => rfl
  | k :: C, q, v, d => by
    unfold walkC readC
    by_cases h : k.has q = true
    · rw [if_pos h, if_pos h]
      by_cases hp : k.c.isPin = true
      · rw [if_pos hp, if_pos hp]
        unfold readR
        rw [if_pos hp]
      · rw [if_neg hp, if_neg hp]
        unfold readR
        rw [if_neg hp]
        exact read_walk C _ _ _
    · rw [if_neg h, if_neg h]
      exact read_walk C q v d
structure CutGood (k : Cut) : Prop where
  ok : Ok k.c
  up : k.c.b = false → k.c.f ≠ k.c.s → k.c.f < k.c.s
  tg : ∀ q, k.has q = true → TGood k.c (k.c.rounds q k.lo)
theorem par_back {k : Cut} (g : CutGood k) {q : Int} (h : k.has q = true) : ((k.c.times (k.c.rounds q k.lo)).inv).par q = k.dest q := by
  have ok := g.ok
  have tg := g.tg q h
  unfold Cut.dest
  by_cases hb : k.c.b = true
  · have m1 : k.c.rounds q k.lo = 1 := by unfold Ti.rounds; rw [hb, Bool.true_or, if_pos rfl]
    rw [m1, if_pos hb]
    unfold Ti.times
    rw [if_pos rfl]
    have e := inv_b ok.bb
    unfold Ti.par
    rw [e, if_pos hb]
    unfold Ti.tu Ti.inv tie
    simp only
    omega
  · rw [if_neg hb]
    have hb : k.c.b = false := by simpa using hb
    by_cases hm : k.c.rounds q k.lo = 1
    · rw [hm]
      unfold Ti.times
      rw [if_pos rfl]
      unfold Ti.par Ti.inv tie Ti.sh
      rw [hb]
      simp only [Bool.false_and, Bool.false_eq_true, if_false]
      omega
    · unfold Ti.times
      rw [if_neg hm]
      unfold Ti.par Ti.inv tie Ti.sh
      simp only [Bool.false_and, Bool.false_eq_true, if_false]
      omega
theorem cut_good {G : Grid} {k : Cut} {size : Int} (h : CutOk G k) (ok : Ok k.c) (h0 : 0 ≤ k.lo) (hB : G.B k.hi) (hr : G.rk k.hi ≤ 1000) : CutGood k := by
  refine ⟨ok, fun hb hf => ?_, fun q hq => ?_⟩
  · have := h.gd.le
    omega
  · obtain ⟨q1, q2⟩ := has_iff.mp hq
    cases hb : k.c.b with
    | true =>
      have m1 : k.c.rounds q k.lo = 1 := by unfold Ti.rounds; rw [hb, Bool.true_or, if_pos rfl]
      rw [m1]
      exact ⟨by omega, by omega, fun z => absurd rfl z⟩
    | false =>
      by_cases hf : k.c.f = k.c.s
      · have m1 : k.c.rounds q k.lo = 1 := by unfold Ti.rounds; rw [hb, Bool.false_or, decide_eq_true hf, if_pos rfl]
        rw [m1]
        exact ⟨by omega, by omega, fun z => absurd rfl z⟩
      · have hp : k.c.isPin = false := by
          cases z : k.c.isPin with
          | false => rfl
          | true => exact absurd (isPin_iff.mp z).2.1 hf
        have ev := h.gd.ev hp
        obtain ⟨r1, r2, r3⟩ := rounds_pos ev hb q1
        have hl : k.c.l = 1 → q - k.lo < k.c.sh := fun e1 => by
          have := h.e
          have := h.s
          have := ev.lt
          unfold Ti.sh
          omega
        have r4 := rounds_le ev h.gd.wk.al hb h0 h.b q1 q2 hB hl
        refine ⟨r1, by omega, fun _ => ⟨hb, ?_, ?_⟩⟩
        · have := ev.lt
          unfold Ti.sh
          omega
        · have := h.e
          have := h.s
          omega
end Lad

-- W14
set_option Elab.async false
set_option linter.all false
set_option maxRecDepth 100000
set_option maxHeartbeats 4000000
namespace TT
open PySem PySem.Spec PyProof.Rows L2
/-! ### o.f as a target -/
section
variable {X : Cx} {pos : Pos} {o : Expr} {f : Str} {to : TE}
def gFld (K : Fg) (to : TE) (f : Str) : TG := fun v σ H Q => to σ H fun x H1 => ∃ a C dx fs, x = .ref a ∧ H1 a = some (.ins C dx fs) ∧ Cls K C ∧ NoAttr K C f ∧ fs.length < 1000 ∧ Q σ (upd H1 a (.ins C dx (putF f v fs)))
theorem pg_fld (ho : PE X o to) : PG X (.Attribute o f pos) (gFld X.K to f) := by
  refine ⟨fun pins s σ H v u Q I r h => ?_⟩
  rw [arm_assign_Attribute]
  refine wpAny_bind (wpAny_holding (thn (ho.run pins s σ H _ I h) fun ov s1 ⟨x, H1, I1, r1, a, C, dx, fs, ex, ea, c, n, l, q⟩ => ?_))
  subst ex
  cases (show ov = Value.ref a from r1)
  refine wpAny_bind (wpAny_standAt (wpAny_bind (wpAny_holding (setattr_ok I1 ea c n l r fun s3 I3 => ?_))))
  exact wpAny_release ⟨σ, _, I3, q⟩
end
/-! ### ladders -/
abbrev cLad (K : Fg) : Addr := gA "Ladder" K
def ladFs (Cu Pa : Addr) : List (Str × V) := [("cuts", V.ref Cu), ("parts", V.ref Pa), ("broken", V.non)]
def LadAt (K : Fg) (H : Hp) (v : V) (C : List Lad.Cut) : Prop := ∃ a dx Cu Pa acc, v = V.ref a ∧ H a = some (.ins (cLad K) dx (ladFs Cu Pa)) ∧ H Cu = some (.lst acc) ∧ Paired (CutAt K H) acc C
theorem LadAt.mono {K : Fg} {H H' : Hp} {v : V} {C : List Lad.Cut} (h : LadAt K H v C) (e : Same H H') : LadAt K H' v C := by
  obtain ⟨a, dx, Cu, Pa, acc, ev, h1, h2, h3⟩ := h
  exact ⟨a, dx, Cu, Pa, acc, ev, e _ _ h1, e _ _ h2, pair_mono h3 fun _ _ y => y.mono e⟩
section
variable {X : Cx}
theorem get_ladder_cuts (c : Env X.K X.mg) (hr : Room 0 X.A) : GetR X "cuts" (fun x H Q => ∃ a dx Cu Pa, x = V.ref a ∧ H a = some (.ins (cLad X.K) dx (ladFs Cu Pa)) ∧ Q (.ref Cu) H) := by
  intro pins σ H s x u b Q I rx ⟨a, dx, Cu, Pa, ex, ea, q⟩
  subst ex
  cases (show u = Value.ref a from rx)
  exact getattr_ok I ea (c_Ladder c) (n_Ladder_cuts c) rfl fun u' s2 I2 ru => ⟨_, H, I2, ru, q⟩
theorem get_ladder_broken (c : Env X.K X.mg) (hr : Room 0 X.A) : GetR X "broken" (fun x H Q => ∃ a dx Cu Pa, x = V.ref a ∧ H a = some (.ins (cLad X.K) dx (ladFs Cu Pa)) ∧ Q .non H) := by
  intro pins σ H s x u b Q I rx ⟨a, dx, Cu, Pa, ex, ea, q⟩
  subst ex
  cases (show u = Value.ref a from rx)
  exact getattr_ok I ea (c_Ladder c) (n_Ladder_broken c) rfl fun u' s2 I2 ru => ⟨_, H, I2, ru, q⟩
end
section
variable {P : Program} {w : World} {K : Fg} {mg : Str → Option Value} {base : Heap}
abbrev n_Ladder_init : List Str := ["self", "size", "links"]
abbrev pr_Ladder_init : List Str := ["self", "size", "links"]
theorem sc_Ladder_init : FnScope n_Ladder_init pr_Ladder_init (defScope s_Ladder_init) := ⟨rfl, rfl, rfl, by decide +kernel, rfl, by decide +kernel, by decide +kernel⟩

def spLadInit (K : Fg) : Sp := fun vs H Q _ => ∃ x dx size a ws T0 I, vs = [V.ref x, V.int size, V.ref a] ∧ H x = some (.ins (cLad K) dx []) ∧ H a = some (.lst ws) ∧ Paired (LinkAt K H) ws T0 ∧ GoodL T0 ∧ Rows I ∧ I (T0.flatMap Lad.evened) [] size ∧
  ∀ C L e H', (∀ q o, H q = some o → q ≠ x → H' q = some o) → LadAt K H' (.ref x) C → I L C e → e ≤ 0 → Q .non H'
theorem ok_Ladder_init (c : Env K mg) : Pm P w K mg base 12 (d_Ladder_init.at_ K) (spLadInit K) := by
  obtain ⟨fd, F⟩ := fd_Ladder_init c
  refine .mk0 (F.ok sc_Ladder_init (ps := pr_Ladder_init) (by intro vs H Q E h; obtain ⟨_, _, _, _, _, _, _, rfl, _⟩ := h; rfl) fun cdv A0 outer s0 H vs Q E hr h => ?_) (FunD.bindsN F fun _ _ _ _ _ _ us hl => match us, hl with | [_, _, _], _ => rfl) F.kp
  obtain ⟨x, dx, size, a, ws, T0, I, rfl, hx, ha, hp, g, R, I0, hQ⟩ := h
  refine ⟨_, (PSs.nox (pss_one (ps_asg (pe_callF (ok_rows_by c) (hr.mono (by decide)) rfl (g_rows_by c) (pa_cons (pv 1) (pa_cons (pv 2) pa_nil))) (pg_tup rfl (pgs_cons (pg_fld (pv 0)) (pgs_cons (pg_fld (pv 0)) (pgs_cons (pg_fld (pv 0)) pgs_nil))))))), ?_⟩
  refine ⟨_, rfl, _, rfl, size, a, ws, T0, I, rfl, ha, hp, g, R, I0, fun p Cu Pa acc pacc L C e H2 s2 h2 hCu hPa pC i2 he => ?_⟩
  have hx2 := s2 _ _ hx
  refine ⟨p, _, rfl, .of h2, rfl, _, _, rfl, _, rfl, _, _, _, _, rfl, hx2, c_Ladder c, n_Ladder_cuts c, (show (0 : Nat) < 1000 by decide), ?_⟩
  refine ⟨_, _, rfl, _, rfl, _, _, _, _, rfl, upd_same, c_Ladder c, n_Ladder_parts c, (show (1 : Nat) < 1000 by decide), ?_⟩
  refine ⟨_, _, rfl, _, rfl, _, _, _, _, rfl, upd_same, c_Ladder c, n_Ladder_broken c, (show (2 : Nat) < 1000 by decide), rfl, ?_⟩
  rw [upd_upd, upd_upd]
  have keep : ∀ q o, H2 q = some o → q ≠ x → (upd H2 x (.ins (cLad K) dx (putF "broken" V.non (putF "parts" (V.ref Pa) (putF "cuts" (V.ref Cu) []))))) q = some o := fun q o e n => by rw [upd_ne n]; exact e
  refine hQ C L e _ (fun q o e n => keep q o (s2 _ _ e) n) ⟨x, dx, Cu, Pa, acc, rfl, upd_same, keep _ _ hCu (ne_of hCu hx2 (by intro z; cases z)), pair_mono pC fun v k y => ?_⟩ i2 he
  obtain ⟨r, vk, ev, y1, y2⟩ := y
  obtain ⟨la, ld, lv, lu, e1, ⟨e2, e3⟩, e4, ta, td, e5, e6⟩ := y2
  refine ⟨r, vk, ev, keep _ _ y1 (ne_of y1 hx2 (by intro z; cases z)), la, ld, lv, lu, e1, ⟨keep _ _ e2 (ne_of e2 hx2 (by intro z; unfold SlX.SlO at z; cases z)), keep _ _ e3 (ne_of e3 hx2 (by intro z; cases z))⟩, e4, ta, td, e5, keep _ _ e6 ?_⟩
  refine ne_of e6 hx2 fun z => ?_
  injection z with _ _ z
  cases z
def FoundAt (K : Fg) (H : Hp) (v : V) (x : Lad.Ti × Int × Int) : Prop := ∃ r vl, v = V.ref r ∧ H r = some (.tup [vl, V.int x.2.1, V.int x.2.2]) ∧ LinkAt K H vl x.1
theorem FoundAt.xs {K : Fg} {H H' : Hp} {v : V} {x : Lad.Ti × Int × Int} (h : FoundAt K H v x) (e : Xs H H') : FoundAt K H' v x := by
  obtain ⟨r, vk, ev, h1, h2⟩ := h
  exact ⟨r, vk, ev, e _ _ h1 (fun _ q => by cases q), h2.xs e⟩
abbrev n_Ladder_walk : List Str := ["self", "place", "found", "now", "low", "end", "link", "many"]
abbrev pr_Ladder_walk : List Str := ["self", "place"]
theorem sc_Ladder_walk : FnScope n_Ladder_walk pr_Ladder_walk (defScope s_Ladder_walk) := ⟨rfl, rfl, rfl, by decide +kernel, rfl, by decide +kernel, by decide +kernel⟩

def spWalk (K : Fg) : Sp := fun vs H Q _ => ∃ v q C, vs = [v, V.int q] ∧ LadAt K H v C ∧ C.length ≤ 1000 ∧ (∀ k ∈ C, Lad.CutGood k) ∧
  ∀ p F acc H', Same H H' → H F = none → H' p = some (.tup [.ref F, V.int (Lad.walkC C q).2]) → H' F = some (.lst acc) → Paired (FoundAt K H') acc (Lad.walkC C q).1 → Q (.ref p) H'
theorem ok_Ladder_walk (c : Env K mg) : Pm P w K mg base 5 (d_Ladder_walk.at_ K) (spWalk K) := by
  obtain ⟨fd, F⟩ := fd_Ladder_walk c
  refine .mk0 (F.ok sc_Ladder_walk (ps := pr_Ladder_walk) (by intro vs H Q E h; obtain ⟨_, _, _, rfl, _⟩ := h; rfl) fun cdv A0 outer s0 H vs Q E hr h => ?_) (FunD.bindsN F fun _ _ _ _ _ _ us hl => match us, hl with | [_, _], _ => rfl) F.kp
  obtain ⟨v, q, C, rfl, hl, hn, hg, hQ⟩ := h
  obtain ⟨a, dx, Cu, Pa, cs, rfl, ha, hCu, hp⟩ := hl
  have hlen := pair_len hp
  refine ⟨_, (PSs.nox (pss_cons (ps_set (i := 2) sc_Ladder_walk.nd rfl (Or.inl rfl) (pe_lst pa_nil))
    (pss_cons (ps_set (i := 3) sc_Ladder_walk.nd rfl (Or.inl rfl) (pv 1))
    (pss_cons (ps_for PassesOwn.never rfl (pi_list (pe_at (get_ladder_cuts c (hr.mono (by decide))) (pv 0))) (pg_tup rfl (pgs_cons (pg_name (i := 4) sc_Ladder_walk.nd rfl (Or.inl rfl)) (pgs_cons (pg_name (i := 5) sc_Ladder_walk.nd rfl (Or.inl rfl)) (pgs_cons (pg_name (i := 6) sc_Ladder_walk.nd rfl (Or.inl rfl)) pgs_nil))))
    (pss_one (ps_if (pt_chain op_le op_lt (pv 4) (pv 3) (pv 5)) (pss_cons (ps_set (i := 7) sc_Ladder_walk.nd rfl (Or.inl rfl) (pe_callF (ok_rounds c) (hr.mono (by decide)) rfl (g_rounds c) (pa_cons (pe_at (get_tie c) (pv 6)) (pa_cons (pv 3) (pa_cons (pv 4) pa_nil)))))
    (pss_cons (ps_expr (pe_bm PySem.F.plainAttrs_list PySem.F.slot_list_append PySem.F.type_list_append mt_append (pv 2) (pa_cons (pe_tup (pa_cons (pv 6) (pa_cons (pv 7) (pa_cons (pv 3) pa_nil)))) pa_nil)))
    (pss_one (ps_if (pt_not (pt_val (pe_callF (ok_is_pin c) (hr.mono (by decide)) rfl (g_is_pin c) (pa_cons (pe_at (get_tie c) (pv 6)) pa_nil)))) (pss_one (ps_set (i := 3) sc_Ladder_walk.nd rfl (Or.inl rfl) (pe_methR (pe_un (un_inv_tie c (hr.mono (by decide))) (pe_op (op_mul_tie c (hr.mono (by decide))) (pe_at (get_tie c) (pv 6)) (pv 7))) (c_Tie c) (m_Tie_partner c) (ok_Tie_partner c).run (hr.mono (by decide)) pass0 (pa_cons (pv 3) pa_nil)))) pss_nil)))) pss_nil)))
    (pss_one (ps_ret (pe_tup (pa_cons (pv 2) (pa_cons (pv 3) pa_nil))))))))), ?_⟩
  refine ⟨by show 0 ≤ sizeLine; decide, fun Fa hF => ⟨_, rfl, _, rfl, a, dx, Cu, Pa, rfl, same_upd hF _ _ ha, Cu, rfl, ⟨cs, .of (same_upd hF _ _ hCu)⟩, ?_⟩⟩
  -- after i turns: found so far F0, now q', the rest gives what is left
  refine for_it (walk_list (xs := cs)) (fun i σ H' => ∃ q' F0 acc z4 z5 z6 z7, σ = [some (.ref a), some (V.int q), some (.ref Fa), some (V.int q'), z4, z5, z6, z7] ∧ H' Fa = some (.lst acc) ∧ Paired (FoundAt K H') acc F0 ∧ acc.length ≤ i ∧
    (Lad.walkC C q).1 = F0 ++ (Lad.walkC (C.drop i) q').1 ∧ (Lad.walkC C q).2 = (Lad.walkC (C.drop i) q').2 ∧ Same H H') ⟨q, [], [], _, _, _, _, rfl, upd_same, .nil, Nat.le_refl _, rfl, rfl, same_upd hF⟩ (fun i σ H' _ ⟨_, _, _, _, _, _, _, _, _, _, _, _, _, s⟩ => .of (s _ _ hCu)) (fun i y σ H' H2 hi q0 hy => ?_) (fun σ H' q0 => ?_)
  · obtain ⟨q', F0, acc, z4, z5, z6, z7, rfl, hF1, pF, hacc, e1, e2, s1⟩ := q0
    obtain ⟨rfl, hy⟩ := hy
    obtain ⟨k, hk, hcut⟩ := pair_get hp hy
    obtain ⟨r, vk, rfl, hr1, lk⟩ := hcut.mono s1
    have hkn := (List.getElem?_eq_some_iff.mp hk).1
    have hkm := List.mem_of_getElem? hk
    have cg := hg k hkm
    have hdrop : C.drop i = k :: C.drop (i + 1) := by
      rw [List.drop_eq_getElem_cons hkn]
      rw [List.getElem?_eq_getElem hkn] at hk
      rw [Option.some.inj hk]
    rw [hdrop] at e1 e2
    refine ⟨r, _, rfl, .of hr1, rfl, _, _, rfl, _, _, rfl, _, _, rfl, rfl, ?_⟩
    have ew : Lad.walkC (k :: C.drop (i + 1)) q' = if k.has q' then ((k.c, k.c.rounds q' k.lo, q') :: (Lad.walkC (C.drop (i + 1)) (if k.c.isPin then q' else k.dest q')).1, (Lad.walkC (C.drop (i + 1)) (if k.c.isPin then q' else k.dest q')).2) else Lad.walkC (C.drop (i + 1)) q' := rfl
    rw [ew] at e1 e2
    by_cases hh : k.has q' = true
    · rw [if_pos hh] at e1 e2
      obtain ⟨q1, q2⟩ := Lad.has_iff.mp hh
      have tg := cg.tg q' hh
      refine ⟨_, rfl, _, rfl, _, _, rfl, rfl, _, rfl, ?_⟩
      rw [decide_eq_true q1]
      refine iteT ⟨_, rfl, _, _, rfl, rfl, _, rfl, ?_⟩
      rw [decide_eq_true q2]
      refine iteT ⟨_, rfl, k.c, lk, fun w hw => ⟨_, rfl, _, rfl, w, k.c, _, _, rfl, hw, cg.ok, cg.up, ?_⟩⟩
      refine ⟨_, rfl, .inl ⟨rfl, _, .of hF1⟩, _, rfl, _, rfl, _, rfl, by show 3 ≤ sizeLine; decide, fun pT nT => ⟨Fa, _, _, rfl, rfl, same_upd nT _ _ hF1, lt_line (by omega), ?_⟩⟩
      have sT := same_upd (o := .tup [vk, V.int (k.c.rounds q' k.lo), V.int q']) nT
      have hT := @upd_same H2 pT (.tup [vk, V.int (k.c.rounds q' k.lo), V.int q'])
      have x3 := (Xs.of sT).trans (Xs.lst (ys := acc ++ [.ref pT]) (sT _ _ hF1))
      have pF3 : Paired (FoundAt K (upd (upd H2 pT (.tup [vk, V.int (k.c.rounds q' k.lo), V.int q'])) Fa (.lst (acc ++ [.ref pT])))) (acc ++ [.ref pT]) (F0 ++ [(k.c, k.c.rounds q' k.lo, q')]) :=
        pair_app (pair_mono pF fun _ _ y => y.xs x3) (.cons ⟨pT, vk, rfl, Xs.lst (ys := acc ++ [.ref pT]) (sT _ _ hF1) _ _ hT (fun _ z => by cases z), lk.xs x3⟩ .nil)
      have s3 := same_set (o := .lst (acc ++ [.ref pT])) (s1.trans sT) hF
      have hF3 : (upd (upd H2 pT (.tup [vk, V.int (k.c.rounds q' k.lo), V.int q'])) Fa (.lst (acc ++ [.ref pT]))) Fa = some (.lst (acc ++ [.ref pT])) := upd_same
      have lk3 := lk.xs x3
      revert pF3 s3 hF3 lk3
      generalize upd (upd H2 pT (.tup [vk, V.int (k.c.rounds q' k.lo), V.int q'])) Fa (.lst (acc ++ [.ref pT])) = H3
      intro pF3 s3 hF3 lk3
      have hac : (acc ++ [V.ref pT]).length ≤ i + 1 := by rw [List.length_append]; simp only [List.length_cons, List.length_nil]; omega
      refine ⟨_, rfl, k.c, lk3, fun w hw => ⟨w, k.c, rfl, hw, _, rfl, ?_⟩⟩
      cases hpin : k.c.isPin with
      | true =>
        rw [if_pos hpin] at e1 e2
        refine iteF ⟨q', F0 ++ [(k.c, k.c.rounds q' k.lo, q')], _, _, _, _, _, rfl, hF3, pF3, hac, ?_, e2, s3⟩
        rw [e1, List.append_assoc]
        rfl
      | false =>
        rw [if_neg (by rw [hpin]; exact Bool.false_ne_true)] at e1 e2
        refine iteT ⟨_, rfl, k.c, lk3, fun w hw => ⟨_, rfl, k.c, k.c.rounds q' k.lo, hw, rfl, cg.ok, tg, fun v4 H4 s4 t4 => ⟨_, t4, Lad.times_ok cg.ok tg, fun v5 H5 s5 t5 => ?_⟩⟩⟩
        obtain ⟨a5, d5, rfl, h5⟩ := t5
        refine ⟨a5, d5, _, rfl, h5, rfl, _, rfl, _, _, _, rfl, ⟨a5, d5, rfl, h5⟩, ?_⟩
        have s35 := s4.trans s5
        refine ⟨_, F0 ++ [(k.c, k.c.rounds q' k.lo, q')], _, _, _, _, _, rfl, s35 _ _ hF3, pair_mono pF3 fun _ _ y => y.xs (.of s35), hac, ?_, ?_, s3.trans s35⟩
        · rw [Lad.par_back cg hh, e1, List.append_assoc]
          rfl
        · rw [Lad.par_back cg hh]
          exact e2
    · rw [if_neg hh] at e1 e2
      have no : ¬ (k.lo ≤ q' ∧ q' < k.hi) := fun z => hh (Lad.has_iff.mpr z)
      refine ⟨_, rfl, _, rfl, _, _, rfl, rfl, _, rfl, ?_⟩
      by_cases q1 : k.lo ≤ q'
      · rw [decide_eq_true q1]
        refine iteT ⟨_, rfl, _, _, rfl, rfl, _, rfl, ?_⟩
        rw [decide_eq_false (show ¬ q' < k.hi from fun z => no ⟨q1, z⟩)]
        exact iteF ⟨q', F0, acc, _, _, _, _, rfl, hF1, pF, by omega, e1, e2, s1⟩
      · rw [decide_eq_false q1]
        refine iteF ⟨_, rfl, iteF ⟨q', F0, acc, _, _, _, _, rfl, hF1, pF, by omega, e1, e2, s1⟩⟩
  · obtain ⟨q', F0, acc, z4, z5, z6, z7, rfl, hF1, pF, hacc, e1, e2, s1⟩ := q0
    rw [hlen, List.drop_length] at e1 e2
    have e1 : (Lad.walkC C q).1 = F0 := by rw [e1]; exact List.append_nil _
    have e2 : (Lad.walkC C q).2 = q' := e2
    rw [e1, e2] at hQ
    refine ⟨_, rfl, _, rfl, by show 2 ≤ sizeLine; decide, fun p np => ?_⟩
    exact hQ p Fa acc _ (s1.trans (same_upd np)) hF upd_same (same_upd np _ _ hF1) (pair_mono pF fun _ _ y => y.xs (.of (same_upd np)))
end
end TT

-- R6
set_option Elab.async false
set_option linter.all false
set_option maxRecDepth 100000
set_option maxHeartbeats 1000000
/-! enumerate(t), t a tuple -/
namespace TT
open PySem PySem.Spec PyProof.Rows L2
set_option maxHeartbeats 2000000 in
theorem en_new {v : Value} {o : Obj} {G : Heap → Prop} (B : Begins v o G) :
    Meets (Builtin.«enumerate.__new__» ⟨[.type "enumerate", v], []⟩) (fun _ R s => G s.heap ∧
      R (.ok (.ret (.ref (s.heap.push o).objs.size))) { s with heap := (s.heap.push o).push { cls := .type "enumerate", data := .fields #[.none, .bool false, .ref s.heap.objs.size, rawInt 0, .none, .none] } }) :=
  .of_wp fun prog w A R s h => by
    obtain ⟨hp, g, d, tk, os⟩ := s
    obtain ⟨h1, h⟩ := h
    have hsub := sub_enumerate
    have it1 : ∀ {A' : Around} {E Q : Value → Shared → Prop}, Q (.ref hp.objs.size) ⟨hp.push o, g, d, tk, os⟩ → wpAny (model prog w) A' (pyIter v) Q E ⟨hp, g, d, tk, os⟩ := fun q => B.iter prog w _ _ ⟨hp, g, d, tk, os⟩ _ h1 q
    wp_walk using it1
    refine wpAny_stack_any fun st => wpAny_pure ?_
    split
    · rename_i c _ _ _ _ _
      cases (c == Value.type "enumerate") <;> (wp_walk using it1; exact ⟨_, rfl, h⟩)
    · wp_walk using it1
      exact ⟨_, rfl, h⟩
section
variable {prog : Program} {w : World} {A : Around} {E : Value → Shared → Prop} {s : Shared}
theorem en_call {v : Value} {o : Obj} {G : Heap → Prop} {Q : Value → Shared → Prop} (B : Begins v o G) (h1 : G s.heap)
    (h : ∀ h', IsEnum h' (s.heap.objs.size + 1) s.heap.objs.size 0 .none → h'.get? s.heap.objs.size = some o → (∀ b u, s.heap.get? b = some u → h'.get? b = some u) → Q (.ref (s.heap.objs.size + 1)) { s with heap := h' }) :
    wpAny (model prog w) A (call (.type "enumerate") [v]) Q E s := by
  refine callType_new PySem.F.called_enumerate (by decide) (PySem.F.typeCall_enumerate_1 _) (PySem.F.newCall_enumerate_1 _) (fun obj => PySem.F.args_object_init_2 obj _) PySem.F.entry_enumerate_new (en_new B) ⟨h1, ?_⟩
  have hz : (s.heap.push o).objs.size = s.heap.objs.size + 1 := Heap.size_push ..
  show _ ∧ _
  rw [hz]
  have he : IsEnum ((s.heap.push o).push { cls := .type "enumerate", data := .fields #[.none, .bool false, .ref s.heap.objs.size, rawInt 0, .none, .none] }) (s.heap.objs.size + 1) s.heap.objs.size 0 .none := by
    have z := Heap.get?_push_size (s.heap.push o) (o := { cls := .type "enumerate", data := .fields #[.none, .bool false, .ref s.heap.objs.size, rawInt 0, .none, .none] }) rfl
    rw [hz] at z
    exact z
  exact ⟨⟨_, he, rfl⟩, h _ he (Heap.get?_push_of_some _ (Heap.get?_push_size _ B.free)) fun b u x => Heap.get?_push_of_some _ (Heap.get?_push_of_some _ x)⟩
end
/-- the tuple at a, each item in a new pair -/
def Itu (K : Fg) (a : Addr) : It :=
  ⟨fun i H => ∃ (xs : List V) (x : V), SqT K H a xs ∧ xs[i]? = some x, fun i H v H' => ∃ T x, v = V.ref T ∧ H T = none ∧ H' = upd H T (.tup [V.int (i : Nat), x]) ∧ ∀ xs, SqT K H a xs → xs[i]? = some x, fun i H => ∃ xs : List V, SqT K H a xs ∧ xs.length ≤ i⟩
theorem en_ne {h : Heap} {e it t : Addr} {i : Int} {old : Value} {its : Array Value} (he : IsEnum h e it i old) (ht : IsTup h t its) : e ≠ t := fun q => by
  subst q
  obtain ⟨o, ho, hc, _⟩ := ht
  have z : h.get? e = some _ := he
  rw [ho] at z
  cases z
  injection hc with q
  exact absurd q (by decide)
theorem turn_enumT {P : Program} {w : World} {K : Fg} {elts : List Expr} {kk : Nat} {tpos : Pos} (a e it : Addr) (hai : a ≠ it) :
    Turn P w K (.Tuple elts kk tpos) (Itu K a) [e, it] e (fun i h => (∃ old, IsEnum h e it ((i : Nat) : Int) old) ∧ h.IsTupleIter it a i ∧ e ≠ it) where
  mem := by simp
  obj := fun i h st b hb => by
    obtain ⟨⟨old, he⟩, ⟨o, ho, hc, hd⟩, _⟩ := st
    rcases (show b = e ∨ b = it by simpa using hb) with z | z
    · rw [z]; exact ⟨_, he, fun v q => nomatch q⟩
    · rw [z]; exact ⟨o, ho, fun v q => by rw [hd] at q; cases q⟩
  keep := fun i h h' st k => let ⟨⟨old, he⟩, hi, hne⟩ := st; ⟨⟨old, k e (by simp) _ he⟩, hi.at fun o q => k it (by simp) o q, hne⟩
  item := by
    intro X hP hw hK hc i pins s σ H E I hf st hg
    subst hP hw hK
    obtain ⟨⟨old, he⟩, hit, hne⟩ := st
    obtain ⟨xs, x, hq, hx⟩ := hg
    obtain ⟨its, rv, p, hz⟩ := I.tuple hq
    obtain ⟨u, hu, ru⟩ := rv.get hx
    have hel : e < s.heap.objs.size := Heap.lt_size he
    have hil : it < s.heap.objs.size := by obtain ⟨_, q, _⟩ := hit; exact Heap.lt_size q
    have hi : i < its.toArray.size := by
      have := (List.getElem?_eq_some_iff.mp hu).1
      simpa using this
    have hea := en_ne he p
    refine wpAny_pyNext_enum_itemD (Draws.tuple (A := X.A.in1) (I.ok.hd hc) it a hai its.toArray) he ⟨hit, p⟩ hi hne (fun q => ?_) fun y h' tk py ho st' hT hsz hk => ?_
    · rcases List.mem_cons.mp q with q | q
      · exact hne q
      · exact hea (List.mem_singleton.mp q)
    have ey : y = u := by
      have z : its[i]? = some y := by simpa using py
      rw [hu] at z
      exact (Option.some.inj z).symm
    subst ey
    refine ⟨_, rfl, wpAny_letOwnedTupleGo_enum (s := { s with heap := h', toks := tk + 1 }) ho fun h2 he2 sb => ?_⟩
    have hT2 : h2.get? s.heap.objs.size = some { cls := .type "tuple", data := .seq #[.int i tk, y] } := (sb.2 _ (Nat.ne_of_gt hel)).trans hT
    have new : ObjOk X.prog X.w (upd H s.heap.objs.size (.tup [V.int (i : Nat), x])) h2 s.heap.objs.size (.tup [V.int (i : Nat), x]) :=
      ⟨by show 2 ≤ sizeLine; decide, [.int i tk, y], .cons ⟨_, rfl⟩ (.cons ru .nil), ⟨_, hT2, rfl, _, rfl⟩⟩
    have I1 : L2.Inv X pins σ (upd H s.heap.objs.size (.tup [V.int (i : Nat), x])) { s with heap := h2, toks := tk + 1 } :=
      I.turnedNew (ch := [e, it]) (fun b ob hb q => (sb.2 b (fun z => hb (by simp [z]))).trans (hk b ob (fun z => hb (by simp [z])) (fun z => hb (by simp [z])) q)) hf (Nat.le_refl _) new
    refine ⟨V.ref s.heap.objs.size, _, I1, rfl, ⟨_, x, rfl, I.hok.fresh (Nat.le_refl _), rfl, fun ys hy => by rw [I.tuple_inj hy hq]; exact hx⟩, ⟨⟨y, ?_⟩, st'.1.at fun o q => (sb.2 it (Ne.symm hne)).trans q, hne⟩, fun b hb => ?_⟩
    · rw [show ((i + 1 : Nat) : Int) = (i : Int) + 1 by omega]; exact he2
    · have hb' : b < s.heap.objs.size := by
        rcases (show b = e ∨ b = it by simpa using hb) with z | z
        · rw [z]; exact hel
        · rw [z]; exact hil
      rw [upd_ne (Nat.ne_of_lt hb')]
      exact (hf b hb).1
  done := by
    intro X hP hw hK hc i pins s σ H E I hf st hg
    subst hP hw hK
    obtain ⟨⟨old, he⟩, hit, hne⟩ := st
    obtain ⟨xs, hq, hx⟩ := hg
    obtain ⟨its, rv, p, hz⟩ := I.tuple hq
    obtain ⟨f0, f1, f2, f3, f4, f5⟩ := hf it (by simp)
    have hl := rv.length
    have hT : s.TypeIs (.ref e) "enumerate" := ⟨_, he, rfl⟩
    unfold pyNext
    refine wpAny_bind (wpAny_attempt (wpAny_callSpecial?_slot (name := Str.ofString "__next__") hT PySem.F.slot_enumerate_next
      (wpAny_call_entry PySem.F.slot_enumerate_next hT PySem.F.entry_enumerate_next ?_ (PySem.F.args_enumerate_next_1 _))))
    show wpAny _ _ (field (.ref e) 2 >>= _) _ _ _
    refine wpAny_bind (wpAny_field he rfl (x := .ref it) rfl (wpAny_bind (wpAny_nextOf_tuple_end (I.ok.hd hc) hit p (by simp; omega) fun h' x he' hx' => ?_)))
    obtain ⟨o, ho, hcl⟩ := hx'
    refine wpAny_bind (wpAny_isInstance (T := "StopIteration") (b := true) ⟨o, ho, hcl⟩ isSubtype_stop (wpAny_pure ?_))
    exact ⟨rfl, I.turned (t' := s.toks) (fun b o hb q => he' b o hb q) f0 f1 f3 f4 f5⟩
  self := fun A i s Q E st h => let ⟨⟨_, he⟩, _⟩ := st; wpAny_pyIter_enum he h
def iEnumT (K : Fg) (ta : TA) : TI := fun σ H R => ta σ H fun vs H1 => ∃ a xs, vs = [V.ref a] ∧ SqT K H1 a xs ∧ R (Itu K a) H1
theorem pi_enumT {X : Cx} {e : Expr} {ta : TA} {p pos tpos : Pos} {elts : List Expr} {kk : Nat} (hg : Gl X "enumerate") (hm : X.mg "enumerate" = none) (ha : PA X [e] ta) (hs : starEach [e] X.env = [(false, eval e X.env)] := by rfl) :
    PI X (.Tuple elts kk tpos) (.Call (.Name "enumerate" p) [e] [] pos) (iEnumT X.K ta) := by
  refine ⟨fun pins s σ H R I h => Call_ (ld_blt I hg hm boot_enumerate (PyProof.Rows.callWith_type1 (thn (ha.run pos pins s σ H _ I h) fun us s1 ⟨vs, H1, I1, r1, q1⟩ => ?_) hs rfl))⟩
  obtain ⟨a, xs, ex, hq, q⟩ := q1
  subst ex
  rw [Vals.ref1 r1]
  obtain ⟨its, rv, p', hz⟩ := I1.tuple hq
  have hal : a < s1.heap.objs.size := p'.lt
  refine en_call (begins_tuple a its.toArray) p' fun h' he hit hk => wpAny_pyIter_enum he ?_
  have I2 : L2.Inv X pins σ H1 { s1 with heap := h' } := I1.kept (t' := s1.toks) hk
  refine ⟨s1.heap.objs.size + 1, [s1.heap.objs.size + 1, s1.heap.objs.size], _, _, H1, rfl, I2, turn_enumT a (s1.heap.objs.size + 1) s1.heap.objs.size (Nat.ne_of_lt hal), ⟨⟨.none, he⟩, ⟨_, hit, rfl, rfl⟩, Nat.succ_ne_self _⟩, fun b hb => ?_, q⟩
  have hle : s1.heap.objs.size ≤ b := by
    rcases (show b = s1.heap.objs.size + 1 ∨ b = s1.heap.objs.size by simpa using hb) with z | z
    · rw [z]; exact Nat.le_add_right _ _
    · rw [z]; exact Nat.le_refl _
  exact I1.fpOk hle (I1.hok.fresh hle)
theorem walk_enumT {K : Fg} {a : Addr} {xs : List V} : Walk (Itu K a) xs.length (fun H => SqT K H a xs) (YPair (fun i => some (V.int (i : Nat))) (fun i => xs[i]?)) := by
  refine ⟨fun i _ hi q => ⟨xs, xs[i], q, by simp [hi]⟩, fun _ q => ⟨xs, q, Nat.le_refl _⟩, fun i H v H' _ q y => ?_⟩
  obtain ⟨T, x, h1, h2, h3, h4⟩ := y
  exact ⟨T, .int (i : Nat), x, h1, h2, h3, rfl, h4 xs q⟩
end TT

-- R7
set_option Elab.async false
set_option linter.all false
set_option maxRecDepth 100000
set_option maxHeartbeats 1000000
/-! range(a, b) of any size, walked -/
namespace TT
open PySem PySem.Spec PyProof.Rows L2
theorem turn_long {P : Program} {w : World} {K : Fg} {tg : Expr} (it : Addr) (lo : Int) (n : Nat) : Turn P w K tg (Itr lo n) [it] it (fun i h => IsLongIter h it (lo + (i : Nat) * 1) ((n : Int) - (i : Nat)) 1) where
  mem := by simp
  obj := fun i h st b hb => by
    rw [List.mem_singleton.mp hb]
    exact ⟨_, st, fun v z => by
      have z2 : Data.fields _ = Data.cell v := z
      cases z2⟩
  keep := fun i h h' st k => k it (by simp) _ st
  item := by
    intro X hP hw hK hc i pins s σ H E I hf st hg
    subst hP hw hK
    obtain ⟨f0, f1, f2, f3, f4, f5⟩ := hf it (by simp)
    refine (Walks.longrange (prog := X.prog) (w := X.w) (I.ok.hd hc) it lo 1 n).item i s _ _ hg st fun v h' tk hv st' kk => ?_
    obtain ⟨t, rfl⟩ := hv
    have I1 : L2.Inv X pins σ H { s with heap := h', toks := tk } := I.turned (fun b o hb e => kk b o (by simpa using hb) e) f0 f1 f3 f4 f5
    refine ⟨_, rfl, go_of (s := { s with heap := h', toks := tk }) (n := "longrange_iterator") st' rfl rfl (by decide) ⟨V.int (lo + i), H, I1, ⟨t, ?_⟩, ⟨rfl, rfl⟩, st', fun b hb => (hf b hb).1⟩⟩
    rw [Int.mul_one]
  done := by
    intro X hP hw hK hc i pins s σ H E I hf st hg
    subst hP hw hK
    obtain ⟨f0, f1, f2, f3, f4, f5⟩ := hf it (by simp)
    exact wpAny_pyNext_long_end (I.ok.hd hc) st (by have : n ≤ i := hg; omega) fun h' eb => ⟨rfl, I.turned (t' := s.toks) (fun b o hb e => eb b o hb e) f0 f1 f3 f4 f5⟩
  self := fun _ _ _ _ _ st h => wpAny_pyIter_longiter st h
section
variable {X : Cx} {tg : Expr}
theorem range_any {pins : List (Addr × Obj)} {σ : L2.St} {H : Hp} {s : Shared} {R : It → Hp → Prop} {E : Value → Shared → Prop} {lo hi : Int} {t u v : Tok} {tk : Nat} (I : L2.Inv X pins σ H s) (q : R (Itr lo (hi - lo).toNat) H) :
    wpAny (model X.prog X.w) X.A (pyIter (.ref s.heap.objs.size)) (PIE X pins σ tg R) E { s with heap := s.heap.push { cls := .type "range", data := .fields #[.int lo t, .int hi u, .int 1 v] }, toks := tk } := by
  have I1 : L2.Inv X pins σ H { s with heap := s.heap.push { cls := .type "range", data := .fields #[.int lo t, .int hi u, .int 1 v] }, toks := tk } := I.kept fun b o e => Heap.get?_push_of_some _ e
  have e1 : lo + ((0 : Nat) : Int) * 1 = lo := by simp
  have e2 : (((hi - lo).toNat : Nat) : Int) - ((0 : Nat) : Int) = Builtin.Range.rangeSize lo hi 1 := by rw [rangeSize_one]; split <;> omega
  have fp : ∀ b ∈ [(s.heap.push { cls := .type "range", data := .fields #[.int lo t, .int hi u, .int 1 v] }).objs.size], FpOk X pins H b := fun b hb => by
    rw [List.mem_singleton.mp hb]
    exact I1.fpOk (Nat.le_refl _) (I1.hok.fresh (Nat.le_refl _))
  cases hs : Builtin.Range.small lo hi 1 with
  | true =>
    refine wpAny_pyIter_range (IsRange.new ..) hs ?_
    refine ⟨_, [_], _, _, H, rfl, I1.kept (t' := tk) fun b o e => Heap.get?_push_of_some _ e, turn_range _ lo (hi - lo).toNat, ?_, fp, q⟩
    show IsRangeIter _ _ (lo + ((0 : Nat) : Int) * 1) ((((hi - lo).toNat : Nat) : Int) - ((0 : Nat) : Int)) 1
    rw [e1, e2]
    exact Heap.get?_push_size _ rfl
  | false =>
    refine wpAny_pyIter_longrange (IsRange.new ..) hs ?_
    refine ⟨_, [_], _, _, H, rfl, I1.kept (t' := tk) fun b o e => Heap.get?_push_of_some _ e, turn_long _ lo (hi - lo).toNat, ?_, fp, q⟩
    show IsLongIter _ _ (lo + ((0 : Nat) : Int) * 1) ((((hi - lo).toNat : Nat) : Int) - ((0 : Nat) : Int)) 1
    rw [e1, e2]
    exact Heap.get?_push_size _ rfl
def iRngL (ta : TA) : TI := fun σ H R => ta σ H fun vs H1 => ∃ i j : Int, vs = [V.int i, V.int j] ∧ R (Itr i (j - i).toNat) H1
theorem pi_rangeL {a b : Expr} {ta : TA} {p pos : Pos} (hg : Gl X "range") (hm : X.mg "range" = none) (ha : PA X [a, b] ta) (hs : starEach [a, b] X.env = [(false, eval a X.env), (false, eval b X.env)] := by rfl) (hs2 : starEach [b] X.env = [(false, eval b X.env)] := by rfl) :
    PI X tg (.Call (.Name "range" p) [a, b] [] pos) (iRngL ta) := by
  refine ⟨fun pins s σ H R I h => Call_ (ld_blt I hg hm boot_range (PyProof.Rows.callWith_type1 (thn (ha.run pos pins s σ H _ I h) fun us s1 ⟨vs, H1, I1, r1, q1⟩ => ?_) (by rw [hs, hs2]) (by rw [hs2]; rfl)))⟩
  obtain ⟨i, j, e, q⟩ := q1
  subst e
  obtain ⟨u1, u2, rfl, r1, r2⟩ := vals2 r1
  obtain ⟨t, rfl⟩ := r1
  obtain ⟨t', rfl⟩ := r2
  exact call_range_2 (range_any I1 q)
end
end TT

-- W15
set_option Elab.async false
set_option linter.all false
set_option maxRecDepth 100000
set_option maxHeartbeats 4000000
namespace TT
open PySem PySem.Spec PyProof.Rows L2
def AnsAt (H : Hp) (v : V) : Lad.Ans → Prop
  | .told n => ∃ r, v = V.ref r ∧ H r = some (.tup [V.str "told", V.int n])
  | .hang d q c => ∃ r, v = V.ref r ∧ H r = some (.tup [V.str (if d then "down" else "up"), V.int q, V.int c])
theorem AnsAt.mono {H H' : Hp} {v : V} {a : Lad.Ans} (h : AnsAt H v a) (e : Same H H') : AnsAt H' v a := by
  cases a with
  | told n => obtain ⟨r, ev, h1⟩ := h; exact ⟨r, ev, e _ _ h1⟩
  | hang d q c => obtain ⟨r, ev, h1⟩ := h; exact ⟨r, ev, e _ _ h1⟩
theorem AnsAt.xs {H H' : Hp} {v : V} {a : Lad.Ans} (h : AnsAt H v a) (e : Xs H H') : AnsAt H' v a := by
  cases a with
  | told n => obtain ⟨r, ev, h1⟩ := h; exact ⟨r, ev, e _ _ h1 fun _ q => by cases q⟩
  | hang d q c => obtain ⟨r, ev, h1⟩ := h; exact ⟨r, ev, e _ _ h1 fun _ q => by cases q⟩
section
variable {P : Program} {w : World} {K : Fg} {mg : Str → Option Value} {base : Heap}
abbrev n_Ladder_reading : List Str := ["self", "place", "rows", "least", "amount", "down", "link", "many", "now", "note", "own", "is_down"]
abbrev pr_Ladder_reading : List Str := ["self", "place"]
theorem sc_Ladder_reading : FnScope n_Ladder_reading pr_Ladder_reading (defScope s_Ladder_reading) := ⟨rfl, rfl, rfl, by decide +kernel, rfl, by decide +kernel, by decide +kernel⟩

theorem walk_tg {C : List Lad.Cut} (hg : ∀ k ∈ C, Lad.CutGood k) : ∀ (q : Int) (x : Lad.Ti × Int × Int), x ∈ (Lad.walkC C q).1 → 1 ≤ x.2.1 ∧ x.2.1 < 2 ^ 64 := by
  induction C with
  | nil => intro q x hx; cases hx
  | cons k C ih =>
    intro q x hx
    have ih := ih fun j hj => hg j (List.mem_cons_of_mem _ hj)
    unfold Lad.walkC at hx
    by_cases h : k.has q = true
    · rw [if_pos h] at hx
      rcases List.mem_cons.mp hx with rfl | hx
      · have t := (hg k List.mem_cons_self).tg q h
        exact ⟨t.m1, t.ms⟩
      · exact ih _ _ hx
    · rw [if_neg h] at hx
      exact ih _ _ hx
def spReading (K : Fg) : Sp := fun vs H Q _ => ∃ v q C, vs = [v, V.int q] ∧ LadAt K H v C ∧ C.length ≤ 1000 ∧ (∀ k ∈ C, Lad.CutGood k) ∧ ∀ u H', Same H H' → AnsAt H' u (Lad.readC C q 0 false) → Q u H'
theorem ok_Ladder_reading (c : Env K mg) : Pm P w K mg base 6 (d_Ladder_reading.at_ K) (spReading K) := by
  obtain ⟨fd, F⟩ := fd_Ladder_reading c
  refine .mk0 (F.ok sc_Ladder_reading (ps := pr_Ladder_reading) (by intro vs H Q E h; obtain ⟨_, _, _, rfl, _⟩ := h; rfl) fun cdv A0 outer s0 H vs Q E hr h => ?_) (FunD.bindsN F fun _ _ _ _ _ _ us hl => match us, hl with | [_, _], _ => rfl) F.kp
  obtain ⟨v, q, C, rfl, hl, hn, hg, hQ⟩ := h
  rw [← Lad.read_walk] at hQ
  have htg := walk_tg hg q
  refine ⟨_, (PSs.nox (pss_cons (ps_asg (pe_methR (pv 0) (c_Ladder c) (m_Ladder_walk c) (ok_Ladder_walk c).run (hr.mono (by decide)) pass0 (pa_cons (pv 1) pa_nil)) (pg_tup rfl (pgs_cons (pg_name (i := 2) sc_Ladder_reading.nd rfl (Or.inl rfl)) (pgs_cons (pg_name (i := 3) sc_Ladder_reading.nd rfl (Or.inl rfl)) pgs_nil))))
    (pss_cons (ps_asg (pe_tup (pa_cons pe_int (pa_cons pe_bl pa_nil))) (pg_tup rfl (pgs_cons (pg_name (i := 4) sc_Ladder_reading.nd rfl (Or.inl rfl)) (pgs_cons (pg_name (i := 5) sc_Ladder_reading.nd rfl (Or.inl rfl)) pgs_nil))))
    (pss_cons (ps_for PassesOwn.never rfl (pi_list (pv 2)) (pg_tup rfl (pgs_cons (pg_name (i := 6) sc_Ladder_reading.nd rfl (Or.inl rfl)) (pgs_cons (pg_name (i := 7) sc_Ladder_reading.nd rfl (Or.inl rfl)) (pgs_cons (pg_name (i := 8) sc_Ladder_reading.nd rfl (Or.inl rfl)) pgs_nil))))
    (pss_cons (ps_if (pt_val (pe_callF (ok_is_pin c) (hr.mono (by decide)) rfl (g_is_pin c) (pa_cons (pe_at (get_tie c) (pv 6)) pa_nil))) (pss_cons (ps_set (i := 9) sc_Ladder_reading.nd rfl (Or.inl rfl) (pe_op op_fdiv (pe_at (get_amount c (hr.mono (by decide))) (pe_at (get_tie c) (pv 6))) pe_int))
    (pss_one (ps_ret (pe_tup (pa_cons (pe_glob (v := V.str "told") rfl (z_TOLD c).choose_spec ⟨_, rfl⟩) (pa_cons (pe_ifExp (pt_val (pv 5)) (pe_op op_sub (pv 4) (pv 9)) (pe_op op_add (pv 4) (pv 9))) pa_nil)))))) pss_nil)
    (pss_cons (ps_asg (pe_methR (pe_at (get_tie c) (pv 6)) (c_Tie c) (m_Tie_led_often c) (ok_Tie_led_often c).run (hr.mono (by decide)) pass0 (pa_cons (pv 7) pa_nil)) (pg_tup rfl (pgs_cons (pg_name (i := 10) sc_Ladder_reading.nd rfl (Or.inl rfl)) (pgs_cons (pg_name (i := 11) sc_Ladder_reading.nd rfl (Or.inl rfl)) pgs_nil))))
    (pss_cons (ps_set (i := 4) sc_Ladder_reading.nd rfl (Or.inl rfl) (pe_ifExp (pt_val (pv 5)) (pe_op op_sub (pv 4) (pv 10)) (pe_op op_add (pv 4) (pv 10))))
    (pss_one (ps_set (i := 5) sc_Ladder_reading.nd rfl (Or.inl rfl) (pe_cmpR op_ne (pv 5) (pv 11) (nomark _))))))))
    (pss_one (ps_ret (pe_tup (pa_cons (pe_ifExp (pt_val (pv 5)) (pe_glob (v := V.str "down") rfl (z_DOWN c).choose_spec ⟨_, rfl⟩) (pe_glob (v := V.str "up") rfl (z_UP c).choose_spec ⟨_, rfl⟩)) (pa_cons (pv 3) (pa_cons (pv 4) pa_nil)))))))))), ?_⟩
  obtain ⟨a, dx, Cu, Pa, cs, rfl, ha, hCu, hp⟩ := id hl
  refine ⟨_, rfl, a, dx, _, rfl, ha, rfl, _, rfl, _, q, C, rfl, hl, hn, hg, fun p Fa acc H1 s1 nF hp1 hF pF => ?_⟩
  revert hQ pF htg
  generalize (Lad.walkC C q).1 = rows at *
  generalize (Lad.walkC C q).2 = least at *
  intro hQ htg pF
  have hlen := pair_len pF
  refine ⟨p, _, rfl, .of hp1, rfl, _, _, rfl, _, _, rfl, rfl, ?_⟩
  refine ⟨by show 2 ≤ sizeLine; decide, fun pc nc => ⟨pc, _, rfl, .of upd_same, rfl, _, _, rfl, _, _, rfl, rfl, ?_⟩⟩
  have sC := same_upd (o := .tup [V.int 0, V.bl false]) nc
  have hF := sC _ _ hF
  have pF := pair_mono pF fun _ _ (q : FoundAt K _ _ _) => q.xs (.of sC)
  have s1 := s1.trans sC
  revert hF pF s1
  generalize upd H1 pc (.tup [V.int 0, V.bl false]) = H1
  intro hF pF s1
  refine ⟨_, rfl, Fa, rfl, ⟨acc, .of hF⟩, ?_⟩
  refine for_it (walk_list (xs := acc)) (fun i σ H' => ∃ v0 d0 z6 z7 z8 z9 z10 z11, σ = [some (.ref a), some (V.int q), some (.ref Fa), some (V.int least), some (V.int v0), some (V.bl d0), z6, z7, z8, z9, z10, z11] ∧ Lad.readR rows least 0 false = Lad.readR (rows.drop i) least v0 d0 ∧ Same H1 H')
    ⟨0, false, _, _, _, _, _, _, rfl, rfl, Same.refl _⟩ (fun i σ H' _ ⟨_, _, _, _, _, _, _, _, _, _, s⟩ => .of (s _ _ hF)) (fun i y σ H' H2 hi q0 hy => ?_) (fun σ H' q0 => ?_)
  · obtain ⟨v0, d0, z6, z7, z8, z9, z10, z11, rfl, e1, s2⟩ := q0
    obtain ⟨rfl, hy⟩ := hy
    obtain ⟨x, hx, r, vl, rfl, hr1, lk⟩ := pair_get pF hy
    have hxm := List.mem_of_getElem? hx
    have hxn := (List.getElem?_eq_some_iff.mp hx).1
    have hr2 := s2 _ _ hr1
    have lk2 := lk.mono s2
    obtain ⟨t1, t2⟩ := htg x hxm
    have hdrop : rows.drop i = x :: rows.drop (i + 1) := by
      rw [List.drop_eq_getElem_cons hxn]
      rw [List.getElem?_eq_getElem hxn] at hx
      rw [Option.some.inj hx]
    rw [hdrop] at e1
    have er : Lad.readR (x :: rows.drop (i + 1)) least v0 d0 = if x.1.isPin then .told (if d0 then v0 - x.1.a / 2 else v0 + x.1.a / 2) else Lad.readR (rows.drop (i + 1)) least (if d0 then v0 - x.1.oftA x.2.1 else v0 + x.1.oftA x.2.1) (d0 != x.1.oftD x.2.1) := rfl
    rw [er] at e1
    refine ⟨r, _, rfl, .of hr2, rfl, _, _, rfl, _, _, rfl, _, _, rfl, rfl, ?_⟩
    refine ⟨_, rfl, x.1, lk2, fun w hw => ⟨w, x.1, rfl, hw, _, rfl, ?_⟩⟩
    cases hpin : x.1.isPin with
    | true =>
      rw [if_pos hpin] at e1
      rw [e1] at hQ
      refine iteT ⟨_, rfl, x.1, lk2, fun w hw => ⟨x.1, hw, _, _, rfl, rfl, ⟨by show (0 : Int) < 2; decide, by show (2 : Int) < 1073741824; decide⟩, ?_⟩⟩
      refine ⟨_, rfl, _, rfl, ?_⟩
      cases d0 with
      | true => exact iteT ⟨_, rfl, _, rfl, _, _, rfl, rfl, by show 2 ≤ sizeLine; decide, fun p2 np => hQ _ _ (s1.trans (s2.trans (same_upd np))) ⟨p2, rfl, upd_same⟩⟩
      | false => exact iteF ⟨_, rfl, _, rfl, _, _, rfl, rfl, by show 2 ≤ sizeLine; decide, fun p2 np => hQ _ _ (s1.trans (s2.trans (same_upd np))) ⟨p2, rfl, upd_same⟩⟩
    | false =>
      rw [if_neg (by rw [hpin]; exact Bool.false_ne_true)] at e1
      refine iteF ⟨_, rfl, x.1, lk2, fun w hw => ?_⟩
      obtain ⟨aw, dw, rfl, h5⟩ := hw
      refine ⟨aw, dw, _, rfl, h5, rfl, _, rfl, _, x.1, x.2.1, rfl, ⟨aw, dw, rfl, h5⟩, by omega, t2, fun p2 np => ?_⟩
      have s3 := s2.trans (same_upd (o := .tup [V.int (x.1.oftA x.2.1), V.bl (x.1.oftD x.2.1)]) np)
      refine ⟨p2, _, rfl, .of upd_same, rfl, _, _, rfl, _, _, rfl, rfl, ?_⟩
      refine ⟨_, rfl, _, rfl, ?_⟩
      cases d0 with
      | true =>
        refine iteT ⟨_, rfl, _, rfl, _, _, rfl, rfl, _, rfl, _, rfl, rfl, _, _, _, _, _, _, _, _, rfl, ?_, s3⟩
        rw [e1]
        show _ = Lad.readR _ _ _ (!decide (V.bl true = V.bl _))
        rw [bne_bl]
        rfl
      | false =>
        refine iteF ⟨_, rfl, _, rfl, _, _, rfl, rfl, _, rfl, _, rfl, rfl, _, _, _, _, _, _, _, _, rfl, ?_, s3⟩
        rw [e1]
        show _ = Lad.readR _ _ _ (!decide (V.bl false = V.bl _))
        rw [bne_bl]
        rfl
  · obtain ⟨v0, d0, z6, z7, z8, z9, z10, z11, rfl, e1, s2⟩ := q0
    rw [hlen, List.drop_length] at e1
    have e1 : Lad.readR rows least 0 false = .hang d0 least v0 := e1
    rw [e1] at hQ
    refine ⟨_, rfl, _, rfl, ?_⟩
    cases d0 with
    | true => exact iteT ⟨_, rfl, _, rfl, by show 3 ≤ sizeLine; decide, fun p2 np => hQ _ _ (s1.trans (s2.trans (same_upd np))) ⟨p2, rfl, upd_same⟩⟩
    | false => exact iteF ⟨_, rfl, _, rfl, by show 3 ≤ sizeLine; decide, fun p2 np => hQ _ _ (s1.trans (s2.trans (same_upd np))) ⟨p2, rfl, upd_same⟩⟩
end
end TT

-- W16
set_option Elab.async false
set_option linter.all false
set_option maxRecDepth 100000
set_option maxHeartbeats 4000000
namespace TT
open PySem PySem.Spec PyProof.Rows L2
/-! ### a book on the heap -/
abbrev cB (K : Fg) : Addr := gA "Book" K
def bookFs (n : Int) (Ti No : Addr) (tx : Str) (L : V) : List (Str × V) := [("own_size", V.int n), ("own_ties", V.ref Ti), ("own_notes", V.ref No), ("own_text", V.str tx), ("own_ladder", L)]
section
variable {P : Program} {w : World} {K : Fg} {mg : Str → Option Value} {base : Heap}
abbrev n_Book_size : List Str := ["self"]
abbrev pr_Book_size : List Str := ["self"]
theorem sc_Book_size : FnScope n_Book_size pr_Book_size (defScope s_Book_size) := ⟨rfl, rfl, rfl, by decide +kernel, rfl, by decide +kernel, by decide +kernel⟩

def spB_size (K : Fg) : Sp := fun vs H Q _ => ∃ b dx n Ti No tx L, vs = [V.ref b] ∧ H b = some (.ins (cB K) dx (bookFs n Ti No tx L)) ∧ Q (V.int n) H
theorem ok_Book_size (c : Env K mg) : Pm P w K mg base 1 (d_Book_size.at_ K) (spB_size K) := by
  obtain ⟨fd, F⟩ := fd_Book_size c
  refine .mk0 (F.ok sc_Book_size (ps := pr_Book_size) (by intro vs H Q E h; obtain ⟨_, _, _, _, _, _, _, rfl, _⟩ := h; rfl) fun cdv A0 outer s0 H vs Q E hr h => ?_) (FunD.bindsN F fun _ _ _ _ _ _ us hl => match us, hl with | [_], _ => rfl) F.kp
  obtain ⟨b, dx, n, Ti, No, tx, L, rfl, hb, hQ⟩ := h
  exact ⟨_, pss_one (ps_ret (pe_fld (pv 0) rfl)), _, rfl, _, _, _, _, _, rfl, hb, c_Book c, n_Book_own_size c, rfl, hQ⟩
abbrev n_Book_ties : List Str := ["self"]
abbrev pr_Book_ties : List Str := ["self"]
theorem sc_Book_ties : FnScope n_Book_ties pr_Book_ties (defScope s_Book_ties) := ⟨rfl, rfl, rfl, by decide +kernel, rfl, by decide +kernel, by decide +kernel⟩

def spB_ties (K : Fg) : Sp := fun vs H Q _ => ∃ b dx n Ti No tx L, vs = [V.ref b] ∧ H b = some (.ins (cB K) dx (bookFs n Ti No tx L)) ∧ Q (V.ref Ti) H
theorem ok_Book_ties (c : Env K mg) : Pm P w K mg base 1 (d_Book_ties.at_ K) (spB_ties K) := by
  obtain ⟨fd, F⟩ := fd_Book_ties c
  refine .mk0 (F.ok sc_Book_ties (ps := pr_Book_ties) (by intro vs H Q E h; obtain ⟨_, _, _, _, _, _, _, rfl, _⟩ := h; rfl) fun cdv A0 outer s0 H vs Q E hr h => ?_) (FunD.bindsN F fun _ _ _ _ _ _ us hl => match us, hl with | [_], _ => rfl) F.kp
  obtain ⟨b, dx, n, Ti, No, tx, L, rfl, hb, hQ⟩ := h
  exact ⟨_, pss_one (ps_ret (pe_fld (pv 0) rfl)), _, rfl, _, _, _, _, _, rfl, hb, c_Book c, n_Book_own_ties c, rfl, hQ⟩
abbrev n_Book_notes : List Str := ["self"]
abbrev pr_Book_notes : List Str := ["self"]
theorem sc_Book_notes : FnScope n_Book_notes pr_Book_notes (defScope s_Book_notes) := ⟨rfl, rfl, rfl, by decide +kernel, rfl, by decide +kernel, by decide +kernel⟩

def spB_notes (K : Fg) : Sp := fun vs H Q _ => ∃ b dx n Ti No tx L, vs = [V.ref b] ∧ H b = some (.ins (cB K) dx (bookFs n Ti No tx L)) ∧ Q (V.ref No) H
theorem ok_Book_notes (c : Env K mg) : Pm P w K mg base 1 (d_Book_notes.at_ K) (spB_notes K) := by
  obtain ⟨fd, F⟩ := fd_Book_notes c
  refine .mk0 (F.ok sc_Book_notes (ps := pr_Book_notes) (by intro vs H Q E h; obtain ⟨_, _, _, _, _, _, _, rfl, _⟩ := h; rfl) fun cdv A0 outer s0 H vs Q E hr h => ?_) (FunD.bindsN F fun _ _ _ _ _ _ us hl => match us, hl with | [_], _ => rfl) F.kp
  obtain ⟨b, dx, n, Ti, No, tx, L, rfl, hb, hQ⟩ := h
  exact ⟨_, pss_one (ps_ret (pe_fld (pv 0) rfl)), _, rfl, _, _, _, _, _, rfl, hb, c_Book c, n_Book_own_notes c, rfl, hQ⟩
end
section
variable {X : Cx}
theorem get_book_size (c : Env X.K X.mg) (hr : Room 2 X.A) : GetR X "size" (fun x H Q => ∃ b dx n Ti No tx L, x = V.ref b ∧ H b = some (.ins (cB X.K) dx (bookFs n Ti No tx L)) ∧ Q (V.int n) H) :=
  (get_prop (c_Book c) (p_Book_size c) (ok_Book_size c).run hr).imp fun x H Q h => by
    obtain ⟨b, dx, n, Ti, No, tx, L, e, hb, q⟩ := h
    exact ⟨b, dx, _, e, hb, b, dx, n, Ti, No, tx, L, rfl, hb, q⟩
theorem get_book_ties (c : Env X.K X.mg) (hr : Room 2 X.A) : GetR X "ties" (fun x H Q => ∃ b dx n Ti No tx L, x = V.ref b ∧ H b = some (.ins (cB X.K) dx (bookFs n Ti No tx L)) ∧ Q (V.ref Ti) H) :=
  (get_prop (c_Book c) (p_Book_ties c) (ok_Book_ties c).run hr).imp fun x H Q h => by
    obtain ⟨b, dx, n, Ti, No, tx, L, e, hb, q⟩ := h
    exact ⟨b, dx, _, e, hb, b, dx, n, Ti, No, tx, L, rfl, hb, q⟩
theorem get_book_notes (c : Env X.K X.mg) (hr : Room 2 X.A) : GetR X "notes" (fun x H Q => ∃ b dx n Ti No tx L, x = V.ref b ∧ H b = some (.ins (cB X.K) dx (bookFs n Ti No tx L)) ∧ Q (V.ref No) H) :=
  (get_prop (c_Book c) (p_Book_notes c) (ok_Book_notes c).run hr).imp fun x H Q h => by
    obtain ⟨b, dx, n, Ti, No, tx, L, e, hb, q⟩ := h
    exact ⟨b, dx, _, e, hb, b, dx, n, Ti, No, tx, L, rfl, hb, q⟩
theorem get_book_own_ladder (c : Env X.K X.mg) (hr : Room 0 X.A) : GetR X "own_ladder" (fun x H Q => ∃ b dx n Ti No tx L, x = V.ref b ∧ H b = some (.ins (cB X.K) dx (bookFs n Ti No tx L)) ∧ Q L H) := by
  intro pins σ H s x u b Q I rx ⟨bb, dx, n, Ti, No, tx, L, ex, ea, q⟩
  subst ex
  cases (show u = Value.ref bb from rx)
  exact getattr_ok I ea (c_Book c) (n_Book_own_ladder c) rfl fun u' s2 I2 ru => ⟨_, H, I2, ru, q⟩
theorem pe_link2K {K : Fg} {mg : Str → Option Value} {e : Expr} {es : List Expr} {p pos : Pos} {t : TA} (c : Env K mg) (eK : X.K = K) (em : X.mg = mg) (hr : Room 2 X.A) (hg : Gl X "Link") (ha : PA X (e :: es) t)
    (he : starEach (e :: es) X.env = (false, eval e X.env) :: starEach es X.env := by rfl) (hpl : (backTo pos (starEach es X.env)).any (·.1) = false := by rfl) : PE X (.Call (.Name "Link" p) (e :: es) [] pos) (tNewL2 K t) := by
  subst eK em
  exact pe_link2 c hr hg ha he hpl
def tNewLad (K : Fg) (t : TA) : TE := fun σ H Q => t σ H fun vs H1 => ∃ size a ws T0 I, vs = [V.int size, V.ref a] ∧ H1 a = some (.lst ws) ∧ Paired (LinkAt K H1) ws T0 ∧ GoodL T0 ∧ Rows I ∧ I (T0.flatMap Lad.evened) [] size ∧
  ∀ v C L e H', Same H1 H' → LadAt K H' v C → I L C e → e ≤ 0 → Q v H'
theorem pe_ladder {e : Expr} {es : List Expr} {p pos : Pos} {t : TA} (c : Env X.K X.mg) (hr : Room 13 X.A) (hg : Gl X "Ladder") (ha : PA X (e :: es) t)
    (he : starEach (e :: es) X.env = (false, eval e X.env) :: starEach es X.env := by rfl) (hpl : (backTo pos (starEach es X.env)).any (·.1) = false := by rfl) : PE X (.Call (.Name "Ladder" p) (e :: es) [] pos) (tNewLad X.K t) := by
  refine PEwk (StX.pe_makeR (k_Ladder c) (ok_Ladder_init (P := X.prog) (w := X.w) (base := X.base) c).run hr hg (g_Ladder c) pass0 (PAmc ha) (by decide) he hpl) fun σ H Q h => ⟨_, h, fun vs H1 q x dx hx hd ne => ?_⟩
  obtain ⟨size, a, ws, T0, I, rfl, hA, hp, g, R, I0, q⟩ := q
  have s1 : Same H1 (upd (upd H1 dx (.own x)) x (.ins (cLad X.K) dx [])) := fun z o e => by rw [upd_ne (ne_of_none e hx), upd_ne (ne_of_none e hd)]; exact e
  exact ⟨x, dx, size, a, ws, T0, I, rfl, upd_same, s1 _ _ hA, pair_mono hp fun _ _ y => y.mono s1, g, R, I0, fun C L e H' fr la i2 he => ⟨rfl, q _ C L e _ (made_of (fs := []) hx hd ne fr) la i2 he⟩⟩
end
/-- a book, its ladder made or not; what its ladder must be: F -/
def BookAt (K : Fg) (H : Hp) (b : Addr) (n : Int) (ts : List Lad.Ti) (F : List Lad.Cut → Prop) : Prop := ∃ dx Ti No tx L vs, H b = some (.ins (cB K) dx (bookFs n Ti No tx L)) ∧ H Ti = some (.tup vs) ∧ Paired (TieAt K H) vs ts ∧ H No = some (.tup []) ∧
  (L = V.non ∨ ∃ C, LadAt K H L C ∧ F C)
/-- all but the object at b -/
def Sb (b : Addr) (H H' : Hp) : Prop := ∀ q o, H q = some o → q ≠ b → H' q = some o
theorem Sb.of {b : Addr} {H H' : Hp} (s : Same H H') : Sb b H H' := fun q o e _ => s q o e
theorem Sb.trans {b : Addr} {H H1 H2 : Hp} (a : Sb b H H1) (c : Sb b H1 H2) : Sb b H H2 := fun q o e n => c q o (a q o e n) n
theorem BookAt.mono {K : Fg} {H H' : Hp} {b : Addr} {n : Int} {ts : List Lad.Ti} {F : List Lad.Cut → Prop} (h : BookAt K H b n ts F) (e : Same H H') : BookAt K H' b n ts F := by
  obtain ⟨dx, Ti, No, tx, L, vs, h1, h2, h3, h4, h5⟩ := h
  refine ⟨dx, Ti, No, tx, L, vs, e _ _ h1, e _ _ h2, pair_mono h3 fun _ _ y => y.mono e, e _ _ h4, ?_⟩
  rcases h5 with h | ⟨C, h6, h7⟩
  · exact .inl h
  · exact .inr ⟨C, h6.mono e, h7⟩
section
variable {P : Program} {w : World} {K : Fg} {mg : Str → Option Value} {base : Heap}
abbrev n_links_of : List Str := ["book", "found", "number", "place", "note", "tie"]
abbrev pr_links_of : List Str := ["book"]
theorem sc_links_of : FnScope n_links_of pr_links_of (defScope s_links_of) := ⟨rfl, rfl, rfl, by decide +kernel, rfl, by decide +kernel, by decide +kernel⟩

def spLinks (K : Fg) : Sp := fun vs H Q _ => ∃ b n ts F, vs = [V.ref b] ∧ BookAt K H b n ts F ∧ ts.length ≤ 1000 ∧ giveLs K H Q ts
theorem ok_links_of (c : Env K mg) : Pm P w K mg base 3 (d_links_of.at_ K) (spLinks K) := by
  obtain ⟨fd, F⟩ := fd_links_of c
  refine .mk0 (F.ok sc_links_of (ps := pr_links_of) (by intro vs H Q E h; obtain ⟨_, _, _, _, rfl, _⟩ := h; rfl) fun cdv A0 outer s0 H vs Q E hr h => ?_) (FunD.bindsN F fun _ _ _ _ _ _ us hl => match us, hl with | [_], _ => rfl) F.kp
  obtain ⟨b, n, ts, Fc, rfl, ⟨dx, Ti, No, tx, L, us, hb, hTi, hts, hNo, hL⟩, hn, hQ⟩ := h
  have hlen := pair_len hts
  refine ⟨_, (PSs.nox (pss_cons (ps_setLc (i := 1) (own := [("number", 2), ("tie", 5)]) (g := (gTup _ 2 (gCons (gName 2) (gCons (gName 5) gNil)))) (tt := tYes) (by rfl) sc_links_of.nd rfl rfl (sw_true rfl rfl rfl (by decide +kernel)) (pi_enumT (by rfl) (f_enumerate c) (pa_cons (pe_at (get_book_ties c (hr.mono (by decide))) (pv 0)) pa_nil)) (blkOk_by (own := [("number", 2), ("tie", 5)]) (N := n_links_of) (sc := defScope s_links_of) (by decide +kernel)) (fun _ _ _ _ _ => (pg_tup rfl (pgs_cons (pg_name (i := 2) sc_links_of.nd rfl (Or.inl rfl)) (pgs_cons (pg_name (i := 5) sc_links_of.nd rfl (Or.inl rfl)) pgs_nil)))) (fun _ _ _ _ _ => pts_nil) (fun _ _ _ _ _ => (pe_link2K c rfl rfl (hr.mono (by decide)) rfl (pa_cons (pv 5) (pa_cons (pe_tup (pa_cons (pe_glob (v := V.str "told") rfl (z_TOLD c).choose_spec ⟨_, rfl⟩) (pa_cons (pv 2) pa_nil))) pa_nil)))))
    (pss_cons (ps_for PassesOwn.never rfl (pi_enumT (by rfl) (f_enumerate c) (pa_cons (pe_at (get_book_notes c (hr.mono (by decide))) (pv 0)) pa_nil)) (pg_tup rfl (pgs_cons (pg_name (i := 2) sc_links_of.nd rfl (Or.inl rfl)) (pgs_cons (pg_tup rfl (pgs_cons (pg_name (i := 3) sc_links_of.nd rfl (Or.inl rfl)) (pgs_cons (pg_name (i := 4) sc_links_of.nd rfl (Or.inl rfl)) pgs_nil))) pgs_nil))) pss_never)
    (pss_one (ps_ret (pv 1)))))), ?_⟩
  refine ⟨_, rfl, b, dx, n, Ti, No, tx, L, rfl, hb, Ti, us, rfl, .of hTi, fun D hD => ?_⟩
  refine lc_it (walk_enumT (xs := us)) (fun i H' => ∃ acc, H' D = some (.lst acc) ∧ Paired (LinkAt K H') acc (ts.take i) ∧ Same H H') ⟨[], upd_same, .nil, same_upd hD⟩
    (fun i H' _ ⟨_, _, _, s⟩ => .of (s _ _ hTi)) (fun i x H1 H2 hi q hy => ?_) (fun H1 q => ?_)
  · obtain ⟨acc, hD1, pa, s1⟩ := q
    obtain ⟨T, xa, xb, rfl, hT, rfl, ex, ey⟩ := hy
    obtain rfl : V.int (i : Int) = xa := Option.some.inj ex
    obtain ⟨t, ht, hl⟩ := pair_get hts ey
    have sT := same_upd (o := .tup [V.int (i : Int), xb]) hT
    have s2 := s1.trans sT
    have hD2 := sT _ _ hD1
    have pa2 := pair_mono pa fun _ _ (y : LinkAt K _ _ _) => y.mono sT
    have hT2 : (upd H1 T (.tup [V.int (i : Int), xb])) T = some (.tup [V.int (i : Int), xb]) := upd_same
    revert s2 hD2 pa2 hT2
    generalize upd H1 T (.tup [V.int (i : Int), xb]) = H3
    intro s2 hD2 pa2 hT2
    have hl2 := hl.mono s2
    have hla := pair_len pa2
    rw [List.length_take] at hla
    refine ⟨T, _, rfl, .of hT2, rfl, _, _, rfl, _, _, rfl, rfl, rfl, _, rfl, _, rfl, by show 2 ≤ sizeLine; decide, fun p np => ⟨xb, _, t, rfl, hl2.mono (same_upd np), fun v4 H4 s4 l4 => ?_⟩⟩
    have s34 := (same_upd np).trans s4
    have hD4 := s34 _ _ hD2
    have xs := Xs.lst (ys := acc ++ [v4]) hD4
    refine ⟨acc, hD4, lt_line (by omega), acc ++ [v4], upd_same, ?_, same_set (s2.trans s34) hD⟩
    rw [List.take_add_one, ht]
    exact pair_app (pair_mono pa2 fun _ _ y => (y.mono s34).xs xs) (.cons (l4.xs xs) .nil)
  · obtain ⟨acc, hD1, pa, s1⟩ := q
    rw [hlen, List.take_length] at pa
    refine ⟨_, rfl, b, dx, n, Ti, No, tx, L, rfl, s1 _ _ hb, No, [], rfl, .of (s1 _ _ hNo), ?_⟩
    refine for_it (walk_enumT (xs := [])) (fun i σ H' => σ = [some (.ref b), some (.ref D), none, none, none, none] ∧ H' = H1) ⟨rfl, rfl⟩ (fun i σ H' _ e => by rw [e.2]; exact .of (s1 _ _ hNo)) (fun i x σ H' H2 hi _ _ => absurd hi (Nat.not_lt_zero _)) (fun σ H' e => ?_)
    obtain ⟨rfl, rfl⟩ := e
    exact ⟨_, rfl, hQ D acc _ s1 hD hD1 pa⟩
abbrev n_ladder_of : List Str := ["book"]
abbrev pr_ladder_of : List Str := ["book"]
theorem sc_ladder_of : FnScope n_ladder_of pr_ladder_of (defScope s_ladder_of) := ⟨rfl, rfl, rfl, by decide +kernel, rfl, by decide +kernel, by decide +kernel⟩

/-- all that making its ladder asks -/
structure BookOk (n : Int) (ts : List Lad.Ti) (F : List Lad.Cut → Prop) (I : List Lad.Ti → List Lad.Cut → Int → Prop) : Prop where
  tn : ts.length ≤ 1000
  gl : GoodL ts
  rw_ : Rows I
  i0 : I (ts.flatMap Lad.evened) [] n
  fin : ∀ {L C e}, I L C e → e ≤ 0 → F C
  cut : ∀ {C}, F C → C.length ≤ 1000 ∧ ∀ k ∈ C, Lad.CutGood k
theorem lad_ne {K : Fg} {H : Hp} {v : V} {C : List Lad.Cut} (h : LadAt K H v C) : v ≠ V.non := by
  obtain ⟨a9, d9, Cu, Pa, acc, e1, _⟩ := h
  rw [e1]
  intro z
  cases z
/-- its ladder is made -/
def OnAt (K : Fg) (H : Hp) (b : Addr) : Prop := ∃ dx n Ti No tx L, H b = some (.ins (cB K) dx (bookFs n Ti No tx L)) ∧ L ≠ V.non
theorem OnAt.mono {K : Fg} {H H' : Hp} {b : Addr} (h : OnAt K H b) (s : Same H H') : OnAt K H' b := by
  obtain ⟨dx, n, Ti, No, tx, L, e, r⟩ := h
  exact ⟨dx, n, Ti, No, tx, L, s _ _ e, r⟩
/-- what asking a book does to the heap: nothing, once its ladder is made -/
structure Gone (K : Fg) (b : Addr) (H H' : Hp) : Prop where
  sb : Sb b H H'
  on : OnAt K H' b
  was : OnAt K H b → Same H H'
theorem Gone.then {K : Fg} {b : Addr} {H H1 H2 : Hp} (a : Gone K b H H1) (s : Same H1 H2) : Gone K b H H2 := ⟨a.sb.trans (Sb.of s), a.on.mono s, fun h => (a.was h).trans s⟩
structure Go (K : Fg) (b : Addr) (H H' : Hp) : Prop where
  sb : Sb b H H'
  was : OnAt K H b → Same H H' ∧ OnAt K H' b
theorem Go.of {K : Fg} {b : Addr} {H H' : Hp} (s : Same H H') : Go K b H H' := ⟨Sb.of s, fun h => ⟨s, h.mono s⟩⟩
theorem Go.trans {K : Fg} {b : Addr} {H H1 H2 : Hp} (a : Go K b H H1) (c : Go K b H1 H2) : Go K b H H2 := ⟨a.sb.trans c.sb, fun h => by
  obtain ⟨s1, o1⟩ := a.was h
  obtain ⟨s2, o2⟩ := c.was o1
  exact ⟨s1.trans s2, o2⟩⟩
theorem Gone.go {K : Fg} {b : Addr} {H H' : Hp} (a : Gone K b H H') : Go K b H H' := ⟨a.sb, fun h => ⟨a.was h, a.on⟩⟩
theorem on_non {K : Fg} {H : Hp} {b dx : Addr} {n : Int} {Ti No : Addr} {tx : Str} (h : H b = some (.ins (cB K) dx (bookFs n Ti No tx V.non))) : ¬ OnAt K H b := by
  rintro ⟨dx', n', Ti', No', tx', L, e, r⟩
  rw [h] at e
  have e2 := (HO.ins.inj (Option.some.inj e)).2.2
  unfold bookFs at e2
  simp only [List.cons.injEq, Prod.mk.injEq, true_and, and_true] at e2
  exact r e2.2.2.2.2.symm
def spLadder (K : Fg) : Sp := fun vs H Q _ => ∃ b n ts F I, vs = [V.ref b] ∧ BookAt K H b n ts F ∧ BookOk n ts F I ∧ ∀ v C H', Gone K b H H' → BookAt K H' b n ts F → LadAt K H' v C → F C → Q v H'
theorem ok_ladder_of (c : Env K mg) : Pm P w K mg base 14 (d_ladder_of.at_ K) (spLadder K) := by
  obtain ⟨fd, F⟩ := fd_ladder_of c
  refine .mk0 (F.ok sc_ladder_of (ps := pr_ladder_of) (by intro vs H Q E h; obtain ⟨_, _, _, _, _, rfl, _⟩ := h; rfl) fun cdv A0 outer s0 H vs Q E hr h => ?_) (FunD.bindsN F fun _ _ _ _ _ _ us hl => match us, hl with | [_], _ => rfl) F.kp
  obtain ⟨b, n, ts, Fc, I, rfl, hB, ok, hQ⟩ := h
  obtain ⟨dx, Ti, No, tx, L, us, hb, hTi, hts, hNo, hL⟩ := id hB
  refine ⟨_, (PSs.nox (pss_cons (ps_if (pt_cmpR op_isN (pe_at (get_book_own_ladder c (hr.mono (by decide))) (pv 0)) pe_non (nomark _)) (pss_one (ps_fld (pv 0) (pe_ladder c (hr.mono (by decide)) rfl (pa_cons (pe_at (get_book_size c (hr.mono (by decide))) (pv 0)) (pa_cons (pe_callF (ok_links_of c) (hr.mono (by decide)) rfl (g_links_of c) (pa_cons (pv 0) pa_nil)) pa_nil))) rfl)) pss_nil)
    (pss_one (ps_ret (pe_at (get_book_own_ladder c (hr.mono (by decide))) (pv 0)))))), ?_⟩
  refine ⟨_, rfl, b, dx, n, Ti, No, tx, L, rfl, hb, rfl, _, rfl, ?_⟩
  rcases hL with rfl | ⟨C, lC, fC⟩
  · refine iteT ⟨_, rfl, b, dx, n, Ti, No, tx, _, rfl, hb, _, rfl, b, n, ts, Fc, rfl, hB, ok.tn, fun a ws H1 s1 na ha pa => ?_⟩
    refine ⟨n, a, ws, ts, I, rfl, ha, pa, ok.gl, ok.rw_, ok.i0, fun v C L e H2 s2 lC i2 he => ?_⟩
    have s12 := s1.trans s2
    have hb2 := s12 _ _ hb
    refine ⟨_, rfl, b, _, dx, _, rfl, hb2, c_Book c, n_Book_own_ladder c, (show (5 : Nat) < 1000 by decide), ?_⟩
    have keep : Sb b H2 (upd H2 b (.ins (cB K) dx (putF "own_ladder" v (bookFs n Ti No tx .non)))) := fun q o e nq => by rw [upd_ne nq]; exact e
    have hb3 : (upd H2 b (.ins (cB K) dx (putF "own_ladder" v (bookFs n Ti No tx .non)))) b = some (.ins (cB K) dx (bookFs n Ti No tx v)) := upd_same
    have neT : ∀ {q : Addr} {xs : List V}, H2 q = some (.tup xs) → q ≠ b := fun e => ne_of e hb2 (by intro z; cases z)
    have neL : ∀ {q : Addr} {xs : List V}, H2 q = some (.lst xs) → q ≠ b := fun e => ne_of e hb2 (by intro z; cases z)
    have fs2 : ∀ {C1 d1 : Addr} {f1 : List (Str × V)} {q : Addr}, H2 q = some (.ins C1 d1 f1) → f1 ≠ bookFs n Ti No tx .non → q ≠ b := fun e h2 => ne_of e hb2 fun z => by injection z with _ _ z; exact h2 z
    have lk : ∀ {x : V} {t : Lad.Ti}, LinkAt K H2 x t → LinkAt K (upd H2 b (.ins (cB K) dx (putF "own_ladder" v (bookFs n Ti No tx .non)))) x t := fun h => by
      obtain ⟨la, ld, lv, lu, e1, ⟨e2, e3⟩, e4, ta, td, e5, e6⟩ := h
      exact ⟨la, ld, lv, lu, e1, ⟨keep _ _ e2 (ne_of e2 hb2 (by intro z; unfold SlX.SlO at z; cases z)), keep _ _ e3 (ne_of e3 hb2 (by intro z; cases z))⟩, e4, ta, td, e5, keep _ _ e6 (fs2 e6 (by intro z; cases z))⟩
    have lad : LadAt K (upd H2 b (.ins (cB K) dx (putF "own_ladder" v (bookFs n Ti No tx .non)))) v C := by
      obtain ⟨a9, d9, Cu, Pa, acc, e1, e2, e3, e4⟩ := lC
      refine ⟨a9, d9, Cu, Pa, acc, e1, keep _ _ e2 (fs2 e2 (by intro z; cases z)), keep _ _ e3 (neL e3), pair_mono e4 fun x k y => ?_⟩
      obtain ⟨r, vk, f1, f2, f3⟩ := y
      exact ⟨r, vk, f1, keep _ _ f2 (neT f2), lk f3⟩
    have ties : Paired (TieAt K (upd H2 b (.ins (cB K) dx (putF "own_ladder" v (bookFs n Ti No tx .non))))) us ts := pair_mono hts fun x t y => by
      obtain ⟨ta, td, e5, e6⟩ := y.mono s12
      exact ⟨ta, td, e5, keep _ _ e6 (fs2 e6 (by intro z; cases z))⟩
    have hTi3 := keep _ _ (s12 _ _ hTi) (neT (s12 _ _ hTi))
    have hNo3 := keep _ _ (s12 _ _ hNo) (neT (s12 _ _ hNo))
    have sb3 : Sb b H (upd H2 b (.ins (cB K) dx (putF "own_ladder" v (bookFs n Ti No tx .non)))) := (Sb.of s12).trans keep
    revert hb3 lad ties hTi3 hNo3 sb3
    generalize upd H2 b (.ins (cB K) dx (putF "own_ladder" v (bookFs n Ti No tx .non))) = H3
    intro hb3 lad ties hTi3 hNo3 sb3
    have fC := ok.fin i2 he
    exact ⟨_, rfl, b, dx, n, Ti, No, tx, v, rfl, hb3, hQ v C H3 ⟨sb3, ⟨dx, n, Ti, No, tx, v, hb3, lad_ne lad⟩, fun on => absurd on (on_non hb)⟩ ⟨dx, Ti, No, tx, v, us, hb3, hTi3, ties, hNo3, .inr ⟨C, lad, fC⟩⟩ lad fC⟩
  · have hLn : L ≠ V.non := by
      obtain ⟨a9, d9, Cu, Pa, acc, e1, _⟩ := lC
      rw [e1]
      intro z
      cases z
    rw [decide_eq_false hLn]
    exact iteF ⟨_, rfl, b, dx, n, Ti, No, tx, L, rfl, hb, hQ L C H ⟨Sb.of (Same.refl _), ⟨dx, n, Ti, No, tx, L, hb, hLn⟩, fun _ => Same.refl _⟩ hB lC fC⟩
abbrev n_check_place : List Str := ["book", "value"]
abbrev pr_check_place : List Str := ["book", "value"]
theorem sc_check_place : FnScope n_check_place pr_check_place (defScope s_check_place) := ⟨rfl, rfl, rfl, by decide +kernel, rfl, by decide +kernel, by decide +kernel⟩

def spCheck (K : Fg) : Sp := fun vs H Q _ => ∃ b n ts F q, vs = [V.ref b, V.int q] ∧ BookAt K H b n ts F ∧ 0 ≤ q ∧ q < n ∧ Q .non H
theorem ok_check_place (c : Env K mg) : Pm P w K mg base 3 (d_check_place.at_ K) (spCheck K) := by
  obtain ⟨fd, F⟩ := fd_check_place c
  refine .mk0 (F.ok sc_check_place (ps := pr_check_place) (by intro vs H Q E h; obtain ⟨_, _, _, _, _, rfl, _⟩ := h; rfl) fun cdv A0 outer s0 H vs Q E hr h => ?_) (FunD.bindsN F fun _ _ _ _ _ _ us hl => match us, hl with | [_, _], _ => rfl) F.kp
  obtain ⟨b, n, ts, Fc, q, rfl, ⟨dx, Ti, No, tx, L, us, hb, _⟩, h0, h1, hQ⟩ := h
  refine ⟨_, (PSs.nox (pss_one (ps_if (pt_not (pt_val (pe_callF (ok_is_integer3 c) (hr.mono (by decide)) rfl (g_is_integer c) (pa_cons (pv 1) (pa_cons pe_int (pa_cons (pe_op op_sub (pe_at (get_book_size c (hr.mono (by decide))) (pv 0)) pe_int) pa_nil)))))) (pss_one ps_never) pss_nil))), ?_⟩
  refine ⟨_, rfl, _, rfl, b, dx, n, Ti, No, tx, L, rfl, hb, _, _, rfl, rfl, q, 0, _, rfl, _, rfl, ?_⟩
  rw [decide_eq_true h0, decide_eq_true (show q ≤ n - 1 by omega)]
  exact iteF hQ
abbrev n_kept_ladder : List Str := ["book", "found"]
abbrev pr_kept_ladder : List Str := ["book"]
theorem sc_kept_ladder : FnScope n_kept_ladder pr_kept_ladder (defScope s_kept_ladder) := ⟨rfl, rfl, rfl, by decide +kernel, rfl, by decide +kernel, by decide +kernel⟩

theorem ok_kept_ladder (c : Env K mg) : Pm P w K mg base 15 (d_kept_ladder.at_ K) (spLadder K) := by
  obtain ⟨fd, F⟩ := fd_kept_ladder c
  refine .mk0 (F.ok sc_kept_ladder (ps := pr_kept_ladder) (by intro vs H Q E h; obtain ⟨_, _, _, _, _, rfl, _⟩ := h; rfl) fun cdv A0 outer s0 H vs Q E hr h => ?_) (FunD.bindsN F fun _ _ _ _ _ _ us hl => match us, hl with | [_], _ => rfl) F.kp
  obtain ⟨b, n, ts, Fc, I, rfl, hB, ok, hQ⟩ := h
  refine ⟨_, (PSs.nox (pss_cons (ps_set (i := 1) sc_kept_ladder.nd rfl (Or.inl rfl) (pe_callF (ok_ladder_of c) (hr.mono (by decide)) rfl (g_ladder_of c) (pa_cons (pv 0) pa_nil)))
    (pss_cons (ps_if (pt_cmpR op_notN (pe_at (get_ladder_broken c (hr.mono (by decide))) (pv 1)) pe_non (nomark _)) (pss_one ps_never) pss_nil)
    (pss_one (ps_ret (pv 1)))))), ?_⟩
  refine ⟨_, rfl, b, n, ts, Fc, I, rfl, hB, ok, fun v C H' sb hB2 lC fC => ?_⟩
  obtain ⟨a9, d9, Cu, Pa, acc, e1, e2, e3, e4⟩ := id lC
  refine ⟨_, rfl, a9, d9, Cu, Pa, e1, e2, rfl, _, rfl, iteF ⟨_, rfl, hQ v C H' sb hB2 lC fC⟩⟩
abbrev n_hangs : List Str := ["book", "place"]
abbrev pr_hangs : List Str := ["book", "place"]
theorem sc_hangs : FnScope n_hangs pr_hangs (defScope s_hangs) := ⟨rfl, rfl, rfl, by decide +kernel, rfl, by decide +kernel, by decide +kernel⟩

def spHangs (K : Fg) : Sp := fun vs H Q _ => ∃ b n ts F I q, vs = [V.ref b, V.int q] ∧ BookAt K H b n ts F ∧ BookOk n ts F I ∧ 0 ≤ q ∧ q < n ∧ ∀ u C H', Gone K b H H' → BookAt K H' b n ts F → F C → AnsAt H' u (Lad.readC C q 0 false) → Q u H'
theorem ok_hangs (c : Env K mg) : Pm P w K mg base 16 (d_hangs.at_ K) (spHangs K) := by
  obtain ⟨fd, F⟩ := fd_hangs c
  refine .mk0 (F.ok sc_hangs (ps := pr_hangs) (by intro vs H Q E h; obtain ⟨_, _, _, _, _, _, rfl, _⟩ := h; rfl) fun cdv A0 outer s0 H vs Q E hr h => ?_) (FunD.bindsN F fun _ _ _ _ _ _ us hl => match us, hl with | [_, _], _ => rfl) F.kp
  obtain ⟨b, n, ts, Fc, I, q, rfl, hB, ok, h0, h1, hQ⟩ := h
  refine ⟨_, (PSs.nox (pss_cons (ps_expr (pe_callF (ok_check_place c) (hr.mono (by decide)) rfl (g_check_place c) (pa_cons (pv 0) (pa_cons (pv 1) pa_nil))))
    (pss_one (ps_ret (pe_methR (pe_callF (ok_kept_ladder c) (hr.mono (by decide)) rfl (g_kept_ladder c) (pa_cons (pv 0) pa_nil)) (c_Ladder c) (m_Ladder_reading c) (ok_Ladder_reading c).run (hr.mono (by decide)) pass0 (pa_cons (pv 1) pa_nil)))))), ?_⟩
  refine ⟨_, rfl, _, rfl, b, n, ts, Fc, q, rfl, hB, h0, h1, ?_⟩
  refine ⟨_, rfl, b, n, ts, Fc, I, rfl, hB, ok, fun v C H' sb hB2 lC fC => ?_⟩
  obtain ⟨a9, d9, Cu, Pa, acc, e1, e2, e3, e4⟩ := id lC
  obtain ⟨c1, c2⟩ := ok.cut fC
  exact ⟨a9, d9, _, e1, e2, rfl, _, rfl, v, q, C, rfl, lC, c1, c2, fun u H2 s2 a2 => hQ u C H2 (sb.then s2) (hB2.mono s2) fC a2⟩
end
end TT

-- W17
set_option Elab.async false
set_option linter.all false
set_option maxRecDepth 100000
set_option maxHeartbeats 4000000
namespace TT
open PySem PySem.Spec PyProof.Rows L2
section
variable {P : Program} {w : World} {K : Fg} {mg : Str → Option Value} {base : Heap}
abbrev n_heard : List Str := ["book", "first", "length", "ladder", "place"]
abbrev pr_heard : List Str := ["book", "first", "length"]
theorem sc_heard : FnScope n_heard pr_heard (defScope s_heard) := ⟨rfl, rfl, rfl, by decide +kernel, rfl, by decide +kernel, by decide +kernel⟩

def answers (C : List Lad.Cut) (f : Int) (l : Nat) : List Lad.Ans := (List.range l).map fun i => Lad.readC C (f + (i : Nat)) 0 false
def spHeard (K : Fg) : Sp := fun vs H Q _ => ∃ b n ts F I f l, vs = [V.ref b, V.int f, V.int l] ∧ BookAt K H b n ts F ∧ BookOk n ts F I ∧ 0 ≤ f ∧ f < n ∧ 1 ≤ l ∧ l ≤ 99 ∧ l ≤ n - f ∧
  ∀ p us C H', Gone K b H H' → BookAt K H' b n ts F → F C → H' p = some (.tup us) → Paired (AnsAt H') us (answers C f l.toNat) → Q (.ref p) H'
theorem ok_heard (c : Env K mg) : Pm P w K mg base 16 (d_heard.at_ K) (spHeard K) := by
  obtain ⟨fd, F⟩ := fd_heard c
  refine .mk0 (F.ok sc_heard (ps := pr_heard) (by intro vs H Q E h; obtain ⟨_, _, _, _, _, _, _, rfl, _⟩ := h; rfl) fun cdv A0 outer s0 H vs Q E hr h => ?_) (FunD.bindsN F fun _ _ _ _ _ _ us hl => match us, hl with | [_, _, _], _ => rfl) F.kp
  obtain ⟨b, n, ts, Fc, I, f, l, rfl, hB, ok, h0, h1, h2, h3, h4, hQ⟩ := h
  obtain ⟨dx, Ti, No, tx, L, us, hb, _⟩ := id hB
  refine ⟨_, (PSs.nox (pss_cons (ps_expr (pe_callF (ok_check_place c) (hr.mono (by decide)) rfl (g_check_place c) (pa_cons (pv 0) (pa_cons (pv 1) pa_nil))))
    (pss_cons (ps_if (pt_not (pt_val (pe_callF (ok_is_integer3 c) (hr.mono (by decide)) rfl (g_is_integer c) (pa_cons (pv 2) (pa_cons pe_int (pa_cons (pe_callB (call_min2 rfl) (by rfl) (f_min c) (by decide +kernel) (pa_cons (pe_glob (v := V.int 99) rfl (i_MOST_HEARD c).choose_spec ⟨_, rfl⟩) (pa_cons (pe_callTy call_int1 (by rfl) (f_int c) (by decide +kernel) (pa_cons (pe_op op_sub (pe_at (get_book_size c (hr.mono (by decide))) (pv 0)) (pv 1)) pa_nil)) pa_nil))) pa_nil)))))) (pss_one ps_never) pss_nil)
    (pss_cons (ps_set (i := 3) sc_heard.nd rfl (Or.inr rfl) (pe_callF (ok_kept_ladder c) (hr.mono (by decide)) rfl (g_kept_ladder c) (pa_cons (pv 0) pa_nil)))
    (pss_one (ps_ret (pe_callTy call_tuple_of (by rfl) (f_tuple c) (by decide +kernel) (pa_cons (pe_lc (own := [("place", 4)]) (g := (gName 4)) (tt := tYes) (by rfl) sc_heard.nd (pi_rangeL rfl (f_range c) (pa_cons (pv 1) (pa_cons (pe_op op_add (pv 1) (pv 2)) pa_nil))) (blkOk_by (own := [("place", 4)]) (N := n_heard) (sc := defScope s_heard) (by decide +kernel)) (fun _ _ _ _ _ => (pg_name (i := 4) sc_heard.nd rfl (Or.inl rfl))) (fun _ _ _ _ _ => pts_nil) (fun _ _ _ _ _ => (pe_methR (pv 3) (c_Ladder c) (m_Ladder_reading c) (ok_Ladder_reading c).run (hr.mono (by decide)) pass0 (pa_cons (pv 4) pa_nil)))) pa_nil)))))))), ?_⟩
  refine ⟨_, rfl, _, rfl, b, n, ts, Fc, f, rfl, hB, h0, h1, ?_⟩
  refine ⟨_, rfl, _, rfl, b, dx, n, Ti, No, tx, L, rfl, hb, _, rfl, _, _, rfl, rfl, .inl ⟨_, rfl, _, _, rfl, ?_⟩⟩
  rw [mn]
  refine ⟨l, 1, _, rfl, _, rfl, ?_⟩
  rw [decide_eq_true h2, decide_eq_true (show l ≤ min 99 (n - f) by omega)]
  refine iteF ⟨_, rfl, b, n, ts, Fc, I, rfl, hB, ok, fun v C H1 sb hB2 lC fC => ?_⟩
  obtain ⟨c1, c2⟩ := ok.cut fC
  refine ⟨_, rfl, _, rfl, _, rfl, _, _, rfl, rfl, f, _, rfl, fun D hD => ?_⟩
  have en : (f + l - f).toNat = l.toNat := by omega
  rw [en]
  have ln : l.toNat ≤ 99 := by omega
  refine lc_it (walk_range (lo := f) (n := l.toNat)) (fun i H' => ∃ acc, H' D = some (.lst acc) ∧ Paired (AnsAt H') acc (answers C f i) ∧ Same H1 H') ⟨[], upd_same, .nil, same_upd hD⟩ (fun _ _ _ _ => trivial) (fun i x H2 H3 hi q hy => ?_) (fun H2 q => ?_)
  · obtain ⟨acc, hD2, pa, s2⟩ := q
    obtain ⟨rfl, rfl⟩ := hy
    have hla := pair_len pa
    unfold answers at hla
    rw [List.length_map, List.length_range] at hla
    obtain ⟨a9, d9, Cu, Pa, acc9, e1, e2, e3, e4⟩ := id (lC.mono s2)
    refine ⟨rfl, _, rfl, a9, d9, _, e1, e2, rfl, _, rfl, v, _, C, rfl, lC.mono s2, c1, c2, fun u H4 s4 a4 => ⟨acc, s4 _ _ hD2, lt_line (by omega), acc ++ [u], upd_same, ?_, same_set (s2.trans s4) hD⟩⟩
    have xs := Xs.lst (ys := acc ++ [u]) (s4 _ _ hD2)
    unfold answers
    rw [List.range_succ, List.map_append]
    exact pair_app (pair_mono pa fun _ _ y => (y.mono s4).xs xs) (.cons (a4.xs xs) .nil)
  · obtain ⟨acc, hD2, pa, s2⟩ := q
    refine ⟨D, acc, rfl, .inl ⟨.of hD2, fun p np => ?_⟩⟩
    exact hQ p acc C _ (sb.then (s2.trans (same_upd np))) (hB2.mono (s2.trans (same_upd np))) fC upd_same (pair_mono pa fun _ _ y => y.mono (same_upd np))
end
end TT

-- TX
set_option Elab.async false
set_option linter.all false
set_option maxRecDepth 100000
set_option maxHeartbeats 1000000
/-! numbers and words as texts -/
namespace TT
open PySem PySem.Spec PyProof.Rows L2 SX TL PySem.Builtin PySem.Builtin.Str PySem.NumText
def intL (n : Int) : List Nat := if n < 0 then 45 :: numL n.natAbs else numL n.natAbs
theorem intL_nat (n : Nat) : intL (n : Int) = numL n := by
  unfold intL
  rw [if_neg (by omega)]
  rfl
theorem str_S (n : Int) : Str.ofString (toString n) = S (intL n) := by
  cases n with
  | ofNat m => exact (num_S m).trans (by rw [show (Int.ofNat m) = ((m : Nat) : Int) from rfl, intL_nat])
  | negSucc m =>
    refine ext_tl ?_
    rw [tl_ofString, show toString (Int.negSucc m) = "-" ++ Nat.repr (m + 1) from rfl, String.toList_append, List.map_append]
    have e := tl_num (m + 1)
    rw [tl_ofString, show toString ((m + 1 : Nat) : Int) = Nat.repr (m + 1) from rfl] at e
    rw [e]
    unfold intL
    rw [if_pos (by omega)]
    rfl
theorem numL_head {n : Nat} {r : List Nat} (h : numL n = 48 :: r) : n = 0 := by
  induction n using Nat.strongRecOn generalizing r with
  | _ n ih =>
    by_cases h10 : n < 10
    · rw [numL_lt h10] at h
      have := (List.cons.inj h).1
      omega
    · rw [numL_step (by omega)] at h
      cases e : numL (n / 10) with
      | nil => exact absurd e (numL_ne _)
      | cons c s =>
        rw [e] at h
        have hc : c = 48 := (List.cons.inj h).1
        subst hc
        have := ih (n / 10) (by omega) e
        omega
theorem int_back {n : Int} (h : n.natAbs < 10 ^ 600) : intText? (S (intL n)) = some n ∧ (S (intL n)).length ≤ 640 := by
  have hl := numL_len (k := 600) (by decide) h
  have hlen : (S (intL n)).length ≤ 640 := by
    rw [S_len]
    unfold intL
    split
    · rw [List.length_cons]; omega
    · omega
  refine ⟨?_, hlen⟩
  by_cases hn : n < 0
  · have e : intL n = 45 :: numL n.natAbs := if_pos hn
    have r := intText_neg (x := S (intL n)) (cs := numL n.natAbs) (by rw [e]) (numL_digits _) (numL_ne _) (by omega)
    rw [r, numL_val]
    congr 1
    omega
  · have e : intL n = numL n.natAbs := if_neg hn
    have r := intText_digits (x := S (intL n)) (by rw [e]; exact numL_digits _) (by rw [e]; exact numL_ne _) (by omega)
    rw [r, e, show (S (numL n.natAbs)).cps.toList = numL n.natAbs from rfl, numL_val]
    congr 1
    omega
theorem free_of {n : Int} {c : Nat} (h : c < 45 ∨ 57 < c) : c ∉ intL n := fun hm => by
  unfold intL at hm
  split at hm
  · rcases List.mem_cons.mp hm with e | hm
    · omega
    · exact numL_free (by omega) hm
  · exact numL_free (by omega) hm
theorem sub_pre (a b : List Nat) : subAt (S (a ++ b)) (S a) 0 = true := by
  unfold subAt
  have e : ((S (a ++ b)).cps.extract 0 (0 + (S a).length)) = (S a).cps := by
    apply Array.ext'
    simp [S, Str.length]
  rw [e]
  exact beq_self_eq_true _
theorem starts_pre (a b : List Nat) : Txt.startswith (S (a ++ b)) (S a) = true := by
  unfold Txt.startswith
  rw [sub_pre, S_len, S_len, List.length_append]
  simp
theorem remove_pre (a b : List Nat) : Txt.removeprefix (S (a ++ b)) (S a) = S b := by
  unfold Txt.removeprefix
  rw [sub_pre, if_pos rfl]
  unfold Txt.affix
  rw [S_len, S_len, List.length_append]
  show (if (a.length + b.length - a.length == a.length + b.length) = true then S (a ++ b) else strSub (S (a ++ b)) a.length (a.length + b.length)) = S b
  by_cases h : a.length + b.length - a.length == a.length + b.length
  · rw [if_pos h]
    have : a = [] := by
      have := beq_iff_eq.mp h
      exact List.length_eq_zero_iff.mp (by omega)
    subst this
    rfl
  · rw [if_neg h]
    refine ext_tl ?_
    rw [tl_strSub]
    show ((a ++ b).drop a.length).take _ = b
    rw [List.drop_left]
    exact List.take_of_length_le (by omega)
theorem remove_no {a : List Nat} {c : Nat} (h : a.head? ≠ some c) : Txt.removeprefix (S a) (S [c]) = S a := by
  unfold Txt.removeprefix
  have e : subAt (S a) (S [c]) 0 = false := by
    unfold subAt
    refine beq_eq_false_iff_ne.mpr fun q => ?_
    have := congrArg Array.toList q
    cases a with
    | nil => simp [S, Str.length] at this
    | cons d r =>
      simp [S, Str.length] at this
      exact h (by rw [this]; rfl)
  rw [e, if_neg Bool.false_ne_true]
  rfl
end TT

-- R8
set_option Elab.async false
set_option linter.all false
set_option maxRecDepth 100000
set_option maxHeartbeats 1000000
/-! word, *parts = a list -/
namespace TT
open PySem PySem.Spec PyProof.Rows L2
theorem un_star {prog : Program} {w : World} {A : Around} {E : Value → Shared → Prop} {s : Shared} {l : Addr} {x : Value} {its : List Value} {Q : List Value → Shared → Prop} (hh : A.handled = none) (hl : s.heap.IsList l (x :: its).toArray) (hz : its.length < 1000)
    (h : ∀ (h' : Heap) (tk : Nat), (∀ b o, s.heap.get? b = some o → h'.get? b = some o) → Q [x, .ref h'.objs.size] { s with heap := h'.push { cls := .type "list", data := .seq its.toArray }, toks := tk }) :
    wpAny (model prog w) A (unpackItems (.ref l) 2 (some 1)) Q E s := by
  have hll : l < s.heap.objs.size := by obtain ⟨o, ho, _⟩ := hl; exact Heap.lt_size ho
  have hlt : l ≠ s.heap.objs.size := Nat.ne_of_lt hll
  unfold unpackItems
  refine wpAny_bind ?_
  unfold notIterableAtAll
  refine wpAny_bind (wpAny_specialOf hl.typeIs PySem.F.slot_list_iter.lookup (wpAny_pure ?_))
  simp only [Bool.false_eq_true, if_false]
  refine wpAny_bind (wpAny_holding (wpAny_pyIter_list hl (wpAny_bind (wpAny_holding (PySem.W.kun_draw hlt 1 0 _ _ ⟨_, Heap.get?_push_size _ rfl, rfl, rfl⟩ (hl.push _) (by simp) fun h1 hit1 sb1 => ?_)))))
  have hl1 : h1.IsList l (x :: its).toArray := (hl.push _).extBut sb1.extBut hlt
  have hit := hit1
  obtain ⟨oi, hoi, _⟩ := hit1
  have hl2 := hl1
  obtain ⟨ol, hol, _⟩ := hl2
  show wpAny _ _ (if ([x] : List Value).length < 1 then _ else _) _ _ _
  rw [if_neg (by simp)]
  refine wpAny_bind (wpAny_holding (PySem.W.kun_collect (s := { s with heap := h1 }) (T := "list_iterator") (.inr (.inr (.inl rfl))) (Walks.list (A := A.in1) hh s.heap.objs.size l hlt (x :: its).toArray) (fun j u st => st.1.typeIs) (k := 1) (by simp) ⟨hit, hl1⟩ (Heap.lt_size hoi) (Heap.lt_size hol) (fun h2 tk hk => ?_) (by simp; rw [sizeLine_eq]; omega)))
  show wpAny _ _ (if its.length < 2 - 1 - 1 then _ else _) _ _ _
  rw [if_neg (by omega)]
  show wpAny _ _ (newList (its.take (its.length - 0)) >>= fun d => pure ([x] ++ [d] ++ its.drop (its.length - 0))) _ _ _
  rw [Nat.sub_zero, List.take_length, List.drop_length]
  have kp : ∀ b o, s.heap.get? b = some o → h2.get? b = some o := fun b o e => hk b o (fun q => by rw [q] at e; exact absurd (Heap.lt_size e) (Nat.lt_irrefl _)) (sb1.extBut b o (fun q => by rw [q] at e; exact absurd (Heap.lt_size e) (Nat.lt_irrefl _)) (Heap.get?_push_of_some _ e))
  exact wpAny_bind (wpAny_newList (wpAny_pure (h h2 tk kp)) (by rw [sizeLine_eq]; omega))
def gStar (K : Fg) (t : TGs) : TG := fun v σ H Q => ∃ a x xs, v = V.ref a ∧ SqL K H a (x :: xs) ∧ xs.length < 1000 ∧ ∀ D, H D = none → t [x, V.ref D] σ (upd H D (.lst xs)) Q
section
variable {X : Cx} {pos sp : Pos}
theorem pg_star {a b : Expr} {k : Nat} {t : TGs} (hc : X.calm = true) (h : PGs X [a, b] t) (hn : (assignEach [a, .Starred b sp] X.env).length = 2 := by rfl) (hst : (assignEach [a, .Starred b sp] X.env).findIdx? (·.1) = some 1 := by rfl)
    (hm : (assignEach [a, .Starred b sp] X.env).map (·.2) = (assignEach [a, b] X.env).map (·.2) := by rfl) : PG X (.Tuple [a, .Starred b sp] k pos) (gStar X.K t) := by
  refine ⟨fun pins s σ H v u Q I r hw => ?_⟩
  obtain ⟨l, x, xs, e1, hq, hl, hw⟩ := hw
  subst e1
  cases (show u = Value.ref l from r)
  obtain ⟨its, rv, pl, hz⟩ := I.list hq
  cases rv with
  | cons rx rr =>
    rename_i y ys
    rw [PyProof.Rows.assign_Tuple]
    refine wpAny_bind (wpAny_standAt ?_)
    unfold unpack
    rw [hn, hst, hm]
    refine wpAny_bind (wpAny_holding (un_star (I.ok.hd hc) pl.isList (by rw [← rr.length]; exact hl) fun h' tk kp => ?_))
    have I1 : L2.Inv X pins σ H { s with heap := h', toks := tk } := I.kept kp
    have hD := I1.hok.fresh (Nat.le_refl _)
    have I2 : L2.Inv X pins σ (upd H h'.objs.size (.lst xs)) { s with heap := h'.push { cls := .type "list", data := .seq ys.toArray }, toks := tk } :=
      I1.laid (t' := tk) (fun b ob q => Heap.get?_push_of_some _ q) (Nat.le_refl _) ⟨by rw [sizeLine_eq]; omega, ys, 0, rr, Heap.get?_push_size _ rfl⟩
    exact h.run pins _ σ _ [x, V.ref h'.objs.size] [y, Value.ref h'.objs.size] Q I2 (.cons rx (.cons rfl .nil)) (hw _ hD)
end
end TT

-- W18
set_option Elab.async false
set_option linter.all false
set_option maxRecDepth 100000
set_option maxHeartbeats 4000000
namespace TT
open PySem PySem.Spec PyProof.Rows L2 SX TL
theorem k_dash : (Str.ofString "-") = S [45] := by decide +kernel
theorem k_none : (Str.ofString "") = S [] := by decide +kernel
theorem k_zero : (Str.ofString "0") = S [48] := by decide +kernel
theorem k_blank : (Str.ofString " ") = S [32] := by decide +kernel
theorem k_feed : (Str.ofString "\n") = S [10] := by decide +kernel
theorem k_figs : (Str.ofString "0123456789").cps.toList = [48, 49, 50, 51, 52, 53, 54, 55, 56, 57] := by decide +kernel
theorem line_big {n : Nat} (h : n ≤ 100000) : n ≤ sizeLine := Nat.le_of_lt (lt_line h)
theorem no_dash (n : Int) : Txt.removeprefix (S (intL n)) (Str.ofString "-") = S (numL n.natAbs) := by
  rw [k_dash]
  by_cases hn : n < 0
  · have e : intL n = [45] ++ numL n.natAbs := if_pos hn
    rw [e, remove_pre]
  · have e : intL n = numL n.natAbs := if_neg hn
    rw [e]
    refine remove_no fun q => ?_
    cases h : numL n.natAbs with
    | nil => exact numL_ne _ h
    | cons c r =>
      rw [h] at q
      have hc := numL_digits n.natAbs c (by rw [h]; exact List.mem_cons_self)
      have : c = 45 := Option.some.inj q
      omega
section
variable {P : Program} {w : World} {K : Fg} {mg : Str → Option Value} {base : Heap}
abbrev n_number_told : List Str := ["word", "figures", "sign"]
abbrev pr_number_told : List Str := ["word"]
theorem sc_number_told : FnScope n_number_told pr_number_told (defScope s_number_told) := ⟨rfl, rfl, rfl, by decide +kernel, rfl, by decide +kernel, by decide +kernel⟩

def spNum : Sp := fun vs H Q _ => ∃ n : Int, vs = [V.str (S (intL n))] ∧ n.natAbs < 10 ^ 600 ∧ ∀ H', Same H H' → Q (V.int n) H'
theorem ok_number_told (c : Env K mg) : Pm P w K mg base 1 (d_number_told.at_ K) spNum := by
  obtain ⟨fd, F⟩ := fd_number_told c
  refine .mk0 (F.ok sc_number_told (ps := pr_number_told) (by intro vs H Q E h; obtain ⟨_, rfl, _⟩ := h; rfl) fun cdv A0 outer s0 H vs Q E hr h => ?_) (FunD.bindsN F fun _ _ _ _ _ _ us hl => match us, hl with | [_], _ => rfl) F.kp
  obtain ⟨n, rfl, hn, hQ⟩ := h
  obtain ⟨hi, hl⟩ := int_back hn
  have hnl := numL_len (k := 600) (by decide) hn
  refine ⟨_, (PSs.nox (pss_cons (ps_set (i := 1) sc_number_told.nd rfl (Or.inl rfl) (pe_bm PySem.F.plainAttrs_str PySem.F.slot_str_removeprefix PySem.F.type_str_removeprefix mt_removeprefix (pv 0) (pa_cons pe_str pa_nil)))
    (pss_cons (ps_if (PW.pt (pw_or (pt_cmpR op_eq (pv 1) pe_str (nomark _)) (pw_or1 (pt_not (pt_val (pe_callB (cr_all rfl) (by rfl) (f_all c) (by decide +kernel) (pa_cons (pe_lc (own := [("sign", 2)]) (g := (gName 2)) (tt := tYes) (by rfl) sc_number_told.nd (pi_str (pv 1)) (blkOk_by (own := [("sign", 2)]) (N := n_number_told) (sc := defScope s_number_told) (by decide +kernel)) (fun _ _ _ _ _ => (pg_name (i := 2) sc_number_told.nd rfl (Or.inl rfl))) (fun _ _ _ _ _ => pts_nil) (fun _ _ _ _ _ => (pe_cmpR op_in_sign (pv 2) (pe_glob (v := V.str "0123456789") rfl (z_FIGURES c).choose_spec ⟨_, rfl⟩) (by rfl)))) pa_nil))))))) (pss_one (ps_ret pe_non)) pss_nil)
    (pss_cons (ps_if (PW.pt (pw_and (pt_cmpR op_eq (pe_ix ix_str (pv 1) pe_int (fun _ _ => rfl)) pe_str (nomark _)) (pw_and1 (pt_cmpR op_ne (pv 0) pe_str (nomark _))))) (pss_one (ps_ret pe_non)) pss_nil)
    (pss_one (ps_ret (pe_callTy call_int_str (by rfl) (f_int c) (by decide +kernel) (pa_cons (pv 0) pa_nil)))))))), ?_⟩
  refine ⟨_, rfl, rfl, _, _, rfl, rfl, line_big (by omega), ?_⟩
  rw [no_dash]
  obtain ⟨d, r, hd⟩ : ∃ d r, numL n.natAbs = d :: r := by
    cases h : numL n.natAbs with
    | nil => exact absurd h (numL_ne _)
    | cons d r => exact ⟨d, r, rfl⟩
  refine ⟨_, rfl, rfl, _, rfl, ?_⟩
  rw [k_none, decide_eq_false (show ¬ V.str (S (numL n.natAbs)) = V.str (S []) from fun q => numL_ne _ (S_inj (V.str.inj q)))]
  refine iteF ⟨_, rfl, _, rfl, fun D hD => ?_⟩
  have hall := numL_digits n.natAbs
  refine lc_it (walk_str (z := S (numL n.natAbs))) (fun i H' => H' = upd H D (.lst ((List.replicate i true).map V.bl))) rfl (fun _ _ _ _ => trivial) (fun i x H1 H2 hi2 e hy => ?_) (fun H1 e => ?_)
  · obtain ⟨rfl, ch, hch, rfl⟩ := hy
    subst e
    have hin : i < (numL n.natAbs).length := by simpa [S] using hi2
    have hm : ch ∈ numL n.natAbs := by
      have : (numL n.natAbs)[i]? = some ch := by simpa [S] using hch
      exact List.mem_of_getElem? this
    have hdg := hall ch hm
    have hmem : ch ∈ (Str.ofString "0123456789").cps.toList := by
      rw [k_figs]
      have : ch = 48 ∨ ch = 49 ∨ ch = 50 ∨ ch = 51 ∨ ch = 52 ∨ ch = 53 ∨ ch = 54 ∨ ch = 55 ∨ ch = 56 ∨ ch = 57 := by omega
      simp only [List.mem_cons, List.not_mem_nil, or_false]
      exact this
    refine ⟨rfl, _, rfl, ch, _, rfl, rfl, _, upd_same, lt_line (by rw [List.length_map, List.length_replicate]; omega), ?_⟩
    rw [upd_upd, decide_eq_true hmem, List.replicate_succ', List.map_append]
    rfl
  · subst e
    refine ⟨D, _, rfl, .of upd_same, _, rfl, ?_⟩
    have ea : (List.replicate (S (numL n.natAbs)).cps.size true).all id = true := by rw [List.all_eq_true]; intro b hb; exact (List.mem_replicate.mp hb).2
    rw [ea]
    have fin : ∀ H', Same H H' → Q (V.int n) H' := hQ
    have sD : Same H (upd H D (.lst ((List.replicate (S (numL n.natAbs)).cps.size true).map V.bl))) := same_upd hD
    refine iteF ⟨_, rfl, _, _, d, rfl, rfl, line_big (by rw [S_len]; omega), (by rw [show (S (numL n.natAbs)).cps.toList = numL n.natAbs from rfl, hd]; exact atI_nat (xs := d :: r) (j := 0) rfl), rfl, _, rfl, ?_⟩
    by_cases h0 : d = 48
    · subst h0
      have n0 := numL_head hd
      have e0 : n = 0 := by omega
      subst e0
      rw [k_zero, decide_eq_true (show V.str ⟨#[48]⟩ = V.str (S [48]) from rfl)]
      refine iteT ⟨_, rfl, rfl, _, rfl, ?_⟩
      have ei : intL 0 = [48] := by decide +kernel
      rw [ei, decide_eq_true (show V.str (S [48]) = V.str (S [48]) from rfl)]
      rw [ei] at hi hl
      exact iteF ⟨_, rfl, _, _, rfl, hi, hl, fin _ sD⟩
    · rw [k_zero, decide_eq_false (show ¬ V.str ⟨#[d]⟩ = V.str (S [48]) from fun q => h0 (List.cons.inj (S_inj (a := [d]) (V.str.inj q))).1)]
      exact iteF ⟨_, rfl, _, _, rfl, hi, hl, fin _ sD⟩
abbrev n_numbers_told : List Str := ["words", "found", "word"]
abbrev pr_numbers_told : List Str := ["words"]
theorem sc_numbers_told : FnScope n_numbers_told pr_numbers_told (defScope s_numbers_told) := ⟨rfl, rfl, rfl, by decide +kernel, rfl, by decide +kernel, by decide +kernel⟩

def spNums (K : Fg) : Sp := fun vs H Q _ => ∃ (a : Addr) (ns : List Int), vs = [V.ref a] ∧ H a = some (.lst ((ns.map fun n => S (intL n)).map V.str)) ∧ ns.length ≤ 100 ∧ (∀ n ∈ ns, n.natAbs < 10 ^ 600) ∧ ∀ D H', Same H H' → H' D = some (.lst (ns.map V.int)) → Q (V.ref D) H'
theorem ok_numbers_told (c : Env K mg) : Pm P w K mg base 2 (d_numbers_told.at_ K) (spNums K) := by
  obtain ⟨fd, F⟩ := fd_numbers_told c
  refine .mk0 (F.ok sc_numbers_told (ps := pr_numbers_told) (by intro vs H Q E h; obtain ⟨_, _, rfl, _⟩ := h; rfl) fun cdv A0 outer s0 H vs Q E hr h => ?_) (FunD.bindsN F fun _ _ _ _ _ _ us hl => match us, hl with | [_], _ => rfl) F.kp
  obtain ⟨a, ns, rfl, ha, hn, hb, hQ⟩ := h
  refine ⟨_, (PSs.nox (pss_cons (ps_setLc (i := 1) (own := [("word", 2)]) (g := (gName 2)) (tt := tYes) (by rfl) sc_numbers_told.nd rfl rfl (sw_true rfl rfl rfl (by decide +kernel)) (pi_list (pv 0)) (blkOk_by (own := [("word", 2)]) (N := n_numbers_told) (sc := defScope s_numbers_told) (by decide +kernel)) (fun _ _ _ _ _ => (pg_name (i := 2) sc_numbers_told.nd rfl (Or.inl rfl))) (fun _ _ _ _ _ => pts_nil) (fun _ _ _ _ _ => (pe_callF (ok_number_told c) (hr.mono (by decide)) rfl (g_number_told c) (pa_cons (pv 2) pa_nil))))
    (pss_one (ps_ret (pe_ifExp (pt_cmpR op_in_seq pe_non (pv 1) (by rfl)) pe_non (pv 1)))))), ?_⟩
  refine ⟨_, rfl, a, rfl, ⟨_, .of ha⟩, fun D hD => ?_⟩
  refine lc_it (walk_list (xs := (ns.map fun n => S (intL n)).map V.str)) (fun i H' => H' D = some (.lst ((ns.take i).map V.int)) ∧ Same H H') ⟨upd_same, same_upd hD⟩ (fun i H' _ q => .of (q.2 _ _ ha)) (fun i x H1 H2 hi q hy => ?_) (fun H1 q => ?_)
  · obtain ⟨hD1, s1⟩ := q
    obtain ⟨rfl, hy⟩ := hy
    rw [List.length_map, List.length_map] at hi
    rw [List.getElem?_map, List.getElem?_map, List.getElem?_eq_getElem hi] at hy
    obtain rfl := (Option.some.inj hy).symm
    refine ⟨rfl, _, rfl, _, rfl, hb _ (List.getElem_mem hi), fun H3 s3 => ⟨_, s3 _ _ hD1, lt_line (by rw [List.length_map, List.length_take]; omega), ?_, same_set (s1.trans s3) hD⟩⟩
    rw [upd_same, List.take_add_one, List.getElem?_eq_getElem hi, List.map_append]
    rfl
  · obtain ⟨hD1, s1⟩ := q
    rw [List.length_map, List.length_map, List.take_length] at hD1
    refine ⟨_, rfl, D, _, rfl, .inl (.of hD1), rfl, ?_, _, rfl, ?_⟩
    · rw [List.all_eq_true]
      intro v hv
      obtain ⟨n, _, rfl⟩ := List.mem_map.mp hv
      rfl
    · have e : inV .non (ns.map V.int) = false := by
        unfold inV
        rw [List.any_eq_false]
        intro v hv
        obtain ⟨n, _, rfl⟩ := List.mem_map.mp hv
        exact Bool.false_ne_true
      show if (inV .non (ns.map V.int)) = true then _ else _
      rw [e]
      exact iteF ⟨_, rfl, hQ D _ s1 hD1⟩
abbrev n_line_parts : List Str := ["line", "head", "many", "word", "parts"]
abbrev pr_line_parts : List Str := ["line", "head", "many"]
theorem sc_line_parts : FnScope n_line_parts pr_line_parts (defScope s_line_parts) := ⟨rfl, rfl, rfl, by decide +kernel, rfl, by decide +kernel, by decide +kernel⟩

/-- a line of words: the first, the others -/
def spParts (K : Fg) : Sp := fun vs H Q _ => ∃ (ws : List (List Nat)) (x : List Nat) (hd : List Nat) (m : Int), vs = [V.str (S (joinL [32] (x :: ws))), V.str (S hd), V.int m] ∧ (∀ p ∈ x :: ws, 32 ∉ p) ∧ (S (joinL [32] (x :: ws))).length ≤ 50000 ∧ ws.length ≤ 100 ∧
  (x = hd → (ws.length : Int) = m → ∀ D H', Same H H' → H D = none → H' D = some (.lst ((ws.map S).map V.str)) → Q (V.ref D) H') ∧ (x ≠ hd → ∀ H', Same H H' → Q .non H') ∧ (x = hd → (ws.length : Int) = m)
theorem ok_line_parts (c : Env K mg) : Pm P w K mg base 1 (d_line_parts.at_ K) (spParts K) := by
  obtain ⟨fd, F⟩ := fd_line_parts c
  refine .mk0 (F.ok sc_line_parts (ps := pr_line_parts) (by intro vs H Q E h; obtain ⟨_, _, _, _, rfl, _⟩ := h; rfl) fun cdv A0 outer s0 H vs Q E hr h => ?_) (FunD.bindsN F fun _ _ _ _ _ _ us hl => match us, hl with | [_, _, _], _ => rfl) F.kp
  obtain ⟨ws, x, hd, m, rfl, hf, hl, hw, h1, h2, h3⟩ := h
  have esp : Txt.split (S (joinL [32] (x :: ws))) (Str.ofString " ") = (x :: ws).map S := by
    rw [k_blank, split_S (List.cons_ne_nil _ _) (by decide), TL.spl_join (List.cons_ne_nil _ _) hf]
  refine ⟨_, (PSs.nox (pss_cons (ps_asg (pe_split (pv 0) (pe_glob (v := V.str " ") rfl (z_BLANK c).choose_spec ⟨_, rfl⟩)) (pg_star rfl (pgs_cons (pg_name (i := 3) sc_line_parts.nd rfl (Or.inl rfl)) (pgs_cons (pg_name (i := 4) sc_line_parts.nd rfl (Or.inl rfl)) pgs_nil))))
    (pss_one (ps_ret (pe_ifExp (PW.pt (pw_and (pt_cmpR op_eq (pv 3) (pv 1) (nomark _)) (pw_and1 (pt_cmpR op_eq (pe_callB call_len_seq (by rfl) (f_len c) (by decide +kernel) (pa_cons (pv 4) pa_nil)) (pv 2) (nomark _))))) (pv 4) pe_non))))), ?_⟩
  refine ⟨_, rfl, ⟨_, rfl⟩, _, _, rfl, rfl, by decide +kernel, ?_, ?_⟩
  · exact line_big (by omega)
  · rw [esp]
    intro p np
    have sp := same_upd (o := .lst (((x :: ws).map S).map V.str)) np
    have hp := @upd_same H p (.lst (((x :: ws).map S).map V.str))
    revert sp hp
    generalize upd H p (.lst (((x :: ws).map S).map V.str)) = H1
    intro sp hp
    refine ⟨p, V.str (S x), (ws.map S).map V.str, rfl, .of hp, by rw [List.length_map, List.length_map]; omega, fun D nD => ?_⟩
    have sD := sp.trans (same_upd (o := .lst ((ws.map S).map V.str)) nD)
    have hD := @upd_same H1 D (.lst ((ws.map S).map V.str))
    have nD0 := sp.free nD
    revert sD hD
    generalize upd H1 D (.lst ((ws.map S).map V.str)) = H2
    intro sD hD
    refine ⟨_, _, rfl, _, _, rfl, rfl, _, rfl, _, rfl, rfl, _, rfl, ?_⟩
    by_cases hx : x = hd
    · rw [decide_eq_true (show V.str (S x) = V.str (S hd) by rw [hx])]
      refine iteT ⟨_, rfl, D, _, rfl, .inl (.of hD), _, rfl, rfl, _, rfl, ?_⟩
      have em := h3 hx
      rw [decide_eq_true (show V.int (((ws.map S).map V.str).length : Nat) = V.int m by rw [List.length_map, List.length_map, em])]
      exact iteT ⟨_, rfl, h1 hx em D H2 sD nD0 hD⟩
    · rw [decide_eq_false (show ¬ V.str (S x) = V.str (S hd) from fun q => hx (S_inj (V.str.inj q)))]
      exact iteF (h2 hx _ sD)
end
end TT

-- W19
set_option Elab.async false
set_option linter.all false
set_option maxRecDepth 100000
set_option maxHeartbeats 4000000
namespace TT
open PySem PySem.Spec PyProof.Rows L2 SX TL
theorem k_up : (Str.ofString "up") = S [117, 112] := by decide +kernel
theorem k_down : (Str.ofString "down") = S [100, 111, 119, 110] := by decide +kernel
theorem k_back : (Str.ofString "back") = S [98, 97, 99, 107] := by decide +kernel
theorem k_tie : (Str.ofString "tie") = S [116, 105, 101] := by decide +kernel
theorem k_size : (Str.ofString "size") = S [115, 105, 122, 101] := by decide +kernel
theorem k_note : (Str.ofString "note") = S [110, 111, 116, 101] := by decide +kernel
theorem ifN {c : Bool} {a b : Prop} (h : c = false) (q : b) : if c = true then a else b := by rw [h]; exact q
theorem ifY {c : Bool} {a b : Prop} (h : c = true) (q : a) : if c = true then a else b := by rw [h]; exact q
def wDn (d : Bool) : List Nat := if d then [100, 111, 119, 110] else [117, 112]
def rowW (f s l a : Int) (d b : Bool) : List (List Nat) := [intL f, intL s, intL l, wDn d, intL a] ++ (if b then [[98, 97, 99, 107]] else [])
theorem wDn_free (d : Bool) {c : Nat} (h : c < 97) : c ∉ wDn d := by
  cases d
  · show c ∉ [117, 112]
    simp only [List.mem_cons, List.not_mem_nil, or_false]
    omega
  · show c ∉ [100, 111, 119, 110]
    simp only [List.mem_cons, List.not_mem_nil, or_false]
    omega
theorem rowW_free {f s l a : Int} {d b : Bool} {c : Nat} (h : c < 45) : ∀ p ∈ rowW f s l a d b, c ∉ p := by
  intro p hp
  unfold rowW at hp
  simp only [List.mem_append, List.mem_cons, List.not_mem_nil, or_false] at hp
  rcases hp with (rfl | rfl | rfl | rfl | rfl) | hp
  · exact free_of (.inl h)
  · exact free_of (.inl h)
  · exact free_of (.inl h)
  · exact wDn_free d (by omega)
  · exact free_of (.inl h)
  · cases b
    · cases hp
    · have : p = [98, 97, 99, 107] := by simpa using hp
      subst this
      simp only [List.mem_cons, List.not_mem_nil, or_false]
      omega
theorem rowW_ne {f s l a : Int} {d b : Bool} : rowW f s l a d b ≠ [] := List.cons_ne_nil _ _
theorem ar_big {f s l a : Int} (ar : Lad.Ar f s l) (ha : a.natAbs < 10 ^ 600) : ∀ n ∈ [f, s, l, a], n.natAbs < 10 ^ 600 := by
  obtain ⟨f0, s0, l1, fe, se⟩ := ar
  have big : (10 : Nat) ^ 31 ≤ 10 ^ 600 := Nat.pow_le_pow_right (by decide) (by decide)
  have h1 : f.natAbs < 10 ^ 31 := by clear ha big; omega
  have h2 : s.natAbs < 10 ^ 31 := by clear ha big; omega
  have h3 : l.natAbs < 10 ^ 31 := by clear ha big; omega
  intro n hn
  simp only [List.mem_cons, List.not_mem_nil, or_false] at hn
  rcases hn with e | e | e | e
  · rw [e]; exact Nat.lt_of_lt_of_le h1 big
  · rw [e]; exact Nat.lt_of_lt_of_le h2 big
  · rw [e]; exact Nat.lt_of_lt_of_le h3 big
  · rw [e]; exact ha
theorem is_dn (d : Bool) : decide (V.str (S (wDn d)) = V.str (Str.ofString "down")) = d := by cases d <;> decide +kernel
theorem k_bk : decide (V.str (S [98, 97, 99, 107]) = V.str (Str.ofString "back")) = true := by decide +kernel
theorem in_ud (d : Bool) : (!inV (V.str (S (wDn d))) [V.str (Str.ofString "up"), V.str (Str.ofString "down")]) = false := by cases d <;> decide +kernel
section
variable {P : Program} {w : World} {K : Fg} {mg : Str → Option Value} {base : Heap}
abbrev n_tie_told : List Str := ["text", "words", "backward", "numbers", "first", "second", "length", "amount"]
abbrev pr_tie_told : List Str := ["text"]
theorem sc_tie_told : FnScope n_tie_told pr_tie_told (defScope s_tie_told) := ⟨rfl, rfl, rfl, by decide +kernel, rfl, by decide +kernel, by decide +kernel⟩

def spTold (K : Fg) : Sp := fun vs H Q _ => ∃ (f s l a : Int) (d b : Bool), vs = [V.str (S (joinL [32] (rowW f s l a d b)))] ∧ Lad.Ar f s l ∧ a.natAbs < 10 ^ 600 ∧ (S (joinL [32] (rowW f s l a d b))).length ≤ 50000 ∧
  ∀ v H', Same H H' → TieAt K H' v (Lad.tie f s l a d b) → Q v H'
theorem ok_tie_told (c : Env K mg) : Pm P w K mg base 4 (d_tie_told.at_ K) (spTold K) := by
  obtain ⟨fd, F⟩ := fd_tie_told c
  refine .mk0 (F.ok sc_tie_told (ps := pr_tie_told) (by intro vs H Q E h; obtain ⟨_, _, _, _, _, _, rfl, _⟩ := h; rfl) fun cdv A0 outer s0 H vs Q E hr h => ?_) (FunD.bindsN F fun _ _ _ _ _ _ us hl => match us, hl with | [_], _ => rfl) F.kp
  obtain ⟨f, s, l, a, d, b, rfl, ar, ha, hl, hQ⟩ := h
  have esp : Txt.split (S (joinL [32] (rowW f s l a d b))) (Str.ofString " ") = (rowW f s l a d b).map S := by
    have ne : rowW f s l a d b ≠ [] := rowW_ne
    rw [k_blank, split_S (by decide) (by decide), TL.spl_join ne (rowW_free (by decide))]
  refine ⟨_, (PSs.nox (pss_cons (ps_set (i := 1) sc_tie_told.nd rfl (Or.inl rfl) (pe_ifExp (pt_val (pe_callB (is_str "str" true (by decide +kernel)) (by rfl) (f_isinstance c) (by decide +kernel) (pa_cons (pv 0) (pa_cons (pe_bltn (v := V.ty "str") (u := Value.type "str") (by rfl) (f_str c) (by decide +kernel) rfl) pa_nil)))) (pe_split (pv 0) (pe_glob (v := V.str " ") rfl (z_BLANK c).choose_spec ⟨_, rfl⟩)) (pe_lst pa_nil)))
    (pss_cons (ps_set (i := 2) sc_tie_told.nd rfl (Or.inl rfl) (pe_and (pe_cmpR op_eq (pe_callB call_len_seq (by rfl) (f_len c) (by decide +kernel) (pa_cons (pv 1) pa_nil)) (pe_glob (v := V.int 6) rfl (i_MOST_WORDS c).choose_spec ⟨_, rfl⟩) (nomark _)) (pe_one (pe_cmpR op_eq (pe_ix ix_list (pv 1) (pe_un un_neg pe_int) (fun _ _ => rfl)) (pe_glob (v := V.str "back") rfl (z_BACK_ties c).choose_spec ⟨_, rfl⟩) (nomark _)))))
    (pss_cons (ps_if (PW.pt (pw_or (PW.pt (pw_and (pt_not (pt_val (pv 2))) (pw_and1 (pt_cmpR op_ne (pe_callB call_len_seq (by rfl) (f_len c) (by decide +kernel) (pa_cons (pv 1) pa_nil)) (pe_glob (v := V.int 5) rfl (i_WORDS c).choose_spec ⟨_, rfl⟩) (nomark _))))) (pw_or1 (pt_cmpR op_notIn_seq (pe_ix ix_list (pv 1) (pe_op op_sub (pe_glob (v := V.int 5) rfl (i_WORDS c).choose_spec ⟨_, rfl⟩) pe_int) (fun _ _ => rfl)) (pe_tup (pa_cons (pe_glob (v := V.str "up") rfl (z_UP c).choose_spec ⟨_, rfl⟩) (pa_cons (pe_glob (v := V.str "down") rfl (z_DOWN c).choose_spec ⟨_, rfl⟩) pa_nil))) (by rfl))))) (pss_one (ps_ret pe_non)) pss_nil)
    (pss_cons (ps_set (i := 3) sc_tie_told.nd rfl (Or.inl rfl) (pe_callF (ok_numbers_told c) (hr.mono (by decide)) rfl (g_numbers_told c) (pa_cons (pe_lst (StX.pa_star (pe_slice sl_list (pv 1) po_none (po_some (pe_op op_sub (pe_glob (v := V.int 5) rfl (i_WORDS c).choose_spec ⟨_, rfl⟩) pe_int))) (pa_cons (pe_ix ix_list (pv 1) (pe_op op_sub (pe_glob (v := V.int 5) rfl (i_WORDS c).choose_spec ⟨_, rfl⟩) pe_int) (fun _ _ => rfl)) pa_nil))) pa_nil)))
    (pss_cons (ps_if (pt_cmpR op_isN (pv 3) pe_non (nomark _)) (pss_one (ps_ret pe_non)) pss_nil)
    (pss_one (ps_try_thru0 (PSs.nox (pss_cons (ps_asg (pv 3) (pg_lst rfl (pgs_cons (pg_name (i := 4) sc_tie_told.nd rfl (Or.inl rfl)) (pgs_cons (pg_name (i := 5) sc_tie_told.nd rfl (Or.inl rfl)) (pgs_cons (pg_name (i := 6) sc_tie_told.nd rfl (Or.inl rfl)) (pgs_cons (pg_name (i := 7) sc_tie_told.nd rfl (Or.inl rfl)) pgs_nil)))))) (pss_one (ps_ret (pe_tie c (hr.mono (by decide)) rfl (pa_cons (pv 4) (pa_cons (pv 5) (pa_cons (pv 6) (pa_cons (pv 7) pa_nil)))) (pe_cmpR op_eq (pe_ix ix_list (pv 1) (pe_op op_sub (pe_glob (v := V.int 5) rfl (i_WORDS c).choose_spec ⟨_, rfl⟩) pe_int) (fun _ _ => rfl)) (pe_glob (v := V.str "down") rfl (z_DOWN c).choose_spec ⟨_, rfl⟩) (nomark _)) (pv 2)))))))))))))), ?_⟩
  refine ⟨_, rfl, ?_⟩
  refine ⟨_, rfl, ?_⟩
  refine ⟨_, rfl, iteT ?_⟩
  refine ⟨_, rfl, ?_⟩
  refine ⟨⟨_, rfl⟩, _, _, rfl, rfl, by decide +kernel, ?_, ?_⟩
  · exact line_big (by omega)
  rw [esp]
  intro p np
  have sp := same_upd (o := .lst (((rowW f s l a d b).map S).map V.str)) np
  have hp := @upd_same H p (.lst (((rowW f s l a d b).map S).map V.str))
  revert sp hp
  generalize upd H p (.lst (((rowW f s l a d b).map S).map V.str)) = H1
  intro sp hp
  clear hl esp
  cases b
  · refine ⟨_, rfl, p, _, rfl, .inl (.of hp), rfl, _, rfl, ifN (by rfl) ?_⟩
    refine ⟨_, rfl, _, rfl, ifY rfl ⟨_, rfl, p, _, rfl, .inl (.of hp), rfl, _, rfl, ifN (by rfl) ?_⟩⟩
    refine ⟨_, rfl, _, _, rfl, rfl, p, _, _, _, rfl, rfl, .of hp, rfl, ?_⟩
    refine ⟨by show 2 ≤ sizeLine; decide, fun p2 np2 => ?_⟩
    have s2 := sp.trans (same_upd (o := .tup [V.str (Str.ofString "up"), V.str (Str.ofString "down")]) np2)
    have hp2 := same_upd (o := .tup [V.str (Str.ofString "up"), V.str (Str.ofString "down")]) np2 _ _ hp
    refine ⟨p2, _, rfl, .inr (.of upd_same), rfl, rfl, _, rfl, ifN (in_ud d) ?_⟩
    revert s2 hp2
    generalize upd H1 p2 (.tup [V.str (Str.ofString "up"), V.str (Str.ofString "down")]) = H2
    intro s2 hp2
    refine ⟨_, rfl, _, _, rfl, rfl, _, rfl, p, _, rfl, .of hp2, fun p3 np3 => ?_⟩
    have hp3 := same_upd (o := .lst (cutV (List.map V.str (List.map S (rowW f s l a d false))) none (some (5 - 2)))) np3 _ _ hp2
    have s3 := s2.trans (same_upd (o := .lst (cutV (List.map V.str (List.map S (rowW f s l a d false))) none (some (5 - 2)))) np3)
    have h3 := @upd_same H2 p3 (.lst (cutV (List.map V.str (List.map S (rowW f s l a d false))) none (some (5 - 2))))
    revert hp3 s3 h3
    generalize upd H2 p3 (.lst (cutV (List.map V.str (List.map S (rowW f s l a d false))) none (some (5 - 2)))) = H3
    intro hp3 s3 h3
    refine ⟨p3, _, rfl, .inr (.of h3), _, rfl, _, _, rfl, rfl, p, _, _, _, rfl, rfl, .of hp3, rfl, ?_⟩
    refine ⟨by show 4 ≤ sizeLine; decide, fun p4 np4 => ⟨p4, [f, s, l, a], rfl, upd_same, (show (4 : Nat) ≤ 100 by decide), ?_, fun D H4 s4 hD => ?_⟩⟩
    · exact ar_big ar ha
    · have s5 := s3.trans ((same_upd np4).trans s4)
      have hp5 := s4 _ _ (same_upd np4 _ _ hp3)
      refine ⟨_, rfl, rfl, _, rfl, ifN (by rfl) ?_⟩
      refine ⟨_, rfl, D, _, rfl, .of hD, rfl, _, _, rfl, _, _, rfl, _, _, rfl, _, _, rfl, rfl, ?_⟩
      refine ⟨_, rfl, _, rfl, _, rfl, _, rfl, ?_⟩
      refine ⟨_, rfl, _, _, rfl, rfl, p, _, _, _, rfl, rfl, .of hp5, rfl, rfl, _, rfl, ?_⟩
      refine ⟨f, s, l, a, d, false, rfl, ?_, ar, fun v H5 s6 tv => hQ v H5 (s5.trans s6) tv⟩
      rw [is_dn]
  · refine ⟨_, rfl, p, _, rfl, .inl (.of hp), rfl, _, rfl, ifY (by rfl) ?_⟩
    refine ⟨_, rfl, _, rfl, p, _, _, _, rfl, rfl, .of hp, rfl, rfl, ?_⟩
    rw [k_bk]
    refine ⟨_, rfl, _, rfl, ifN rfl ?_⟩
    refine ⟨_, rfl, _, _, rfl, rfl, p, _, _, _, rfl, rfl, .of hp, rfl, ?_⟩
    refine ⟨by show 2 ≤ sizeLine; decide, fun p2 np2 => ?_⟩
    have s2 := sp.trans (same_upd (o := .tup [V.str (Str.ofString "up"), V.str (Str.ofString "down")]) np2)
    have hp2 := same_upd (o := .tup [V.str (Str.ofString "up"), V.str (Str.ofString "down")]) np2 _ _ hp
    refine ⟨p2, _, rfl, .inr (.of upd_same), rfl, rfl, _, rfl, ifN (in_ud d) ?_⟩
    revert s2 hp2
    generalize upd H1 p2 (.tup [V.str (Str.ofString "up"), V.str (Str.ofString "down")]) = H2
    intro s2 hp2
    refine ⟨_, rfl, _, _, rfl, rfl, _, rfl, p, _, rfl, .of hp2, fun p3 np3 => ?_⟩
    have hp3 := same_upd (o := .lst (cutV (List.map V.str (List.map S (rowW f s l a d true))) none (some (5 - 2)))) np3 _ _ hp2
    have s3 := s2.trans (same_upd (o := .lst (cutV (List.map V.str (List.map S (rowW f s l a d true))) none (some (5 - 2)))) np3)
    have h3 := @upd_same H2 p3 (.lst (cutV (List.map V.str (List.map S (rowW f s l a d true))) none (some (5 - 2))))
    revert hp3 s3 h3
    generalize upd H2 p3 (.lst (cutV (List.map V.str (List.map S (rowW f s l a d true))) none (some (5 - 2)))) = H3
    intro hp3 s3 h3
    refine ⟨p3, _, rfl, .inr (.of h3), _, rfl, _, _, rfl, rfl, p, _, _, _, rfl, rfl, .of hp3, rfl, ?_⟩
    refine ⟨by show 4 ≤ sizeLine; decide, fun p4 np4 => ⟨p4, [f, s, l, a], rfl, upd_same, (show (4 : Nat) ≤ 100 by decide), ?_, fun D H4 s4 hD => ?_⟩⟩
    · exact ar_big ar ha
    · have s5 := s3.trans ((same_upd np4).trans s4)
      have hp5 := s4 _ _ (same_upd np4 _ _ hp3)
      refine ⟨_, rfl, rfl, _, rfl, ifN (by rfl) ?_⟩
      refine ⟨_, rfl, D, _, rfl, .of hD, rfl, _, _, rfl, _, _, rfl, _, _, rfl, _, _, rfl, rfl, ?_⟩
      refine ⟨_, rfl, _, rfl, _, rfl, _, rfl, ?_⟩
      refine ⟨_, rfl, _, _, rfl, rfl, p, _, _, _, rfl, rfl, .of hp5, rfl, rfl, _, rfl, ?_⟩
      refine ⟨f, s, l, a, d, true, rfl, ?_, ar, fun v H5 s6 tv => hQ v H5 (s5.trans s6) tv⟩
      rw [is_dn]
end
end TT

-- W20
set_option Elab.async false
set_option linter.all false
set_option maxRecDepth 100000
set_option maxHeartbeats 4000000
namespace TT
open PySem PySem.Spec PyProof.Rows L2 SX TL
/-- a row that may stand in a book of this size -/
structure RowT (n : Int) (r : Lad.Row) : Prop where
  ar : Lad.Ar r.f r.s r.l
  fe : r.f + r.l ≤ n
  se : r.s + r.l ≤ n
  am : r.a.natAbs < 10 ^ 600
def wTie : List Nat := [116, 105, 101]
def wSize : List Nat := [115, 105, 122, 101]
def rw6 (r : Lad.Row) : List (List Nat) := rowW r.f r.s r.l r.a r.d r.b
def tieL (r : Lad.Row) : List Nat := joinL [32] (wTie :: rw6 r)
def sizeL (n : Int) : List Nat := joinL [32] [wSize, intL n]
def bookL (n : Int) (rs : List Lad.Row) : List Nat := joinL [10] (sizeL n :: rs.map tieL)
theorem tieL_eq (r : Lad.Row) : tieL r = (wTie ++ [32]) ++ joinL [32] (rw6 r) := by
  unfold tieL rw6 rowW
  rfl
theorem joinL_free {x : Nat} {sep : List Nat} (h : x ∉ sep) : ∀ {ps : List (List Nat)}, (∀ p ∈ ps, x ∉ p) → x ∉ joinL sep ps
  | [], _ => by intro q; cases q
  | [p], hp => hp p List.mem_cons_self
  | p :: q :: r, hp => by
    intro m
    rcases List.mem_append.mp (show x ∈ p ++ (sep ++ joinL sep (q :: r)) from m) with m | m
    · exact hp p List.mem_cons_self m
    · rcases List.mem_append.mp m with m | m
      · exact h m
      · exact joinL_free h (fun p hp' => hp p (List.mem_cons_of_mem _ hp')) m
theorem joinL_len {sep : List Nat} {m : Nat} : ∀ {ps : List (List Nat)}, (∀ p ∈ ps, p.length ≤ m) → (joinL sep ps).length ≤ ps.length * (m + sep.length)
  | [], _ => Nat.zero_le _
  | [p], hp => by
    have := hp p List.mem_cons_self
    show p.length ≤ 1 * (m + sep.length)
    omega
  | p :: q :: r, hp => by
    have h1 := hp p List.mem_cons_self
    have h2 := joinL_len (sep := sep) (ps := q :: r) (fun p hp' => hp p (List.mem_cons_of_mem _ hp'))
    show (p ++ (sep ++ joinL sep (q :: r))).length ≤ (q :: r).length.succ * (m + sep.length)
    rw [List.length_append, List.length_append, Nat.succ_mul]
    omega
theorem wTie_free {c : Nat} (h : c < 97) : c ∉ wTie := by
  show c ∉ [116, 105, 101]
  simp only [List.mem_cons, List.not_mem_nil, or_false]
  omega
theorem wSize_free {c : Nat} (h : c < 97) : c ∉ wSize := by
  show c ∉ [115, 105, 122, 101]
  simp only [List.mem_cons, List.not_mem_nil, or_false]
  omega
theorem tieL_feed (r : Lad.Row) : 10 ∉ tieL r := joinL_free (by decide) fun p hp => by
  rcases List.mem_cons.mp hp with rfl | hp
  · exact wTie_free (by decide)
  · exact rowW_free (by decide) p hp
theorem sizeL_feed (n : Int) : 10 ∉ sizeL n := joinL_free (by decide) fun p hp => by
  simp only [List.mem_cons, List.not_mem_nil, or_false] at hp
  rcases hp with rfl | rfl
  · exact wSize_free (by decide)
  · exact free_of (.inl (by decide))
theorem intL_len {n : Int} (h : n.natAbs < 10 ^ 600) : (intL n).length ≤ 640 := by
  have := (int_back h).2
  rwa [S_len] at this
theorem rowW_len {f s l a : Int} {d b : Bool} (ar : Lad.Ar f s l) (ha : a.natAbs < 10 ^ 600) : ∀ p ∈ rowW f s l a d b, p.length ≤ 640 := by
  have B := ar_big ar ha
  intro p hp
  unfold rowW at hp
  simp only [List.mem_append, List.mem_cons, List.not_mem_nil, or_false] at hp
  rcases hp with (rfl | rfl | rfl | rfl | rfl) | hp
  · exact intL_len (B f (by simp))
  · exact intL_len (B s (by simp))
  · exact intL_len (B l (by simp))
  · cases d <;> decide
  · exact intL_len (B a (by simp))
  · cases b
    · cases hp
    · have : p = [98, 97, 99, 107] := by simpa using hp
      subst this
      decide
theorem rowW_n {f s l a : Int} {d b : Bool} : (rowW f s l a d b).length ≤ 6 := by
  cases b
  · show 5 ≤ 6; decide
  · show 6 ≤ 6; decide
theorem tieL_len {n : Int} {r : Lad.Row} (h : RowT n r) : (tieL r).length ≤ 5000 := by
  have q := joinL_len (sep := [32]) (m := 640) (ps := wTie :: rw6 r) (fun p hp => by
    rcases List.mem_cons.mp hp with rfl | hp
    · decide
    · exact rowW_len h.ar h.am p hp)
  have : (wTie :: rw6 r).length ≤ 7 := Nat.succ_le_succ rowW_n
  unfold tieL
  refine Nat.le_trans q ?_
  show _ * 641 ≤ 5000
  omega
theorem size_small {n : Int} (h1 : 1 ≤ n) (h2 : n ≤ 10 ^ 30) : n.natAbs < 10 ^ 600 := by
  have big : (10 : Nat) ^ 31 ≤ 10 ^ 600 := Nat.pow_le_pow_right (by decide) (by decide)
  have h1 : n.natAbs < 10 ^ 31 := by clear big; omega
  exact Nat.lt_of_lt_of_le h1 big
theorem sizeL_len {n : Int} (h1 : 1 ≤ n) (h2 : n ≤ 10 ^ 30) : (sizeL n).length ≤ 5000 := by
  have q := joinL_len (sep := [32]) (m := 640) (ps := [wSize, intL n]) (fun p hp => by
    simp only [List.mem_cons, List.not_mem_nil, or_false] at hp
    rcases hp with rfl | rfl
    · decide
    · exact intL_len (size_small h1 h2))
  refine Nat.le_trans q ?_
  show 2 * 641 ≤ 5000
  decide
theorem tie_bb (f s l a : Int) (d b : Bool) : Lad.tie f s l a d (b && decide (1 < l)) = Lad.tie f s l a d b := by
  unfold Lad.tie
  cases b <;> simp
theorem cut_tail (x : V) (xs : List V) : cutV (x :: xs) (some 1) none = xs := by
  unfold cutV HT.sIx
  simp
theorem k_ts : (Str.ofString "tie") ++ (Str.ofString " ") = S (wTie ++ [32]) := by decide +kernel
section
variable {P : Program} {w : World} {K : Fg} {mg : Str → Option Value} {base : Heap}
abbrev n_is_tie_within : List Str := ["value", "size"]
abbrev pr_is_tie_within : List Str := ["value", "size"]
theorem sc_is_tie_within : FnScope n_is_tie_within pr_is_tie_within (defScope s_is_tie_within) := ⟨rfl, rfl, rfl, by decide +kernel, rfl, by decide +kernel, by decide +kernel⟩

def spWithin (K : Fg) : Sp := fun vs H Q _ => ∃ v t n, vs = [v, V.int n] ∧ TieAt K H v t ∧ t.f + t.l ≤ n ∧ t.s + t.l ≤ n ∧ Q (V.bl true) H
theorem ok_is_tie_within (c : Env K mg) : Pm P w K mg base 3 (d_is_tie_within.at_ K) (spWithin K) := by
  obtain ⟨fd, F⟩ := fd_is_tie_within c
  refine .mk0 (F.ok sc_is_tie_within (ps := pr_is_tie_within) (by intro vs H Q E h; obtain ⟨_, _, _, rfl, _⟩ := h; rfl) fun cdv A0 outer s0 H vs Q E hr h => ?_) (FunD.bindsN F fun _ _ _ _ _ _ us hl => match us, hl with | [_, _], _ => rfl) F.kp
  obtain ⟨v, t, n, rfl, ht, h1, h2, hQ⟩ := h
  refine ⟨_, (PSs.nox (pss_one (ps_ret (pe_and (pe_callB (is_tie c) (by rfl) (f_isinstance c) (by decide +kernel) (pa_cons (pv 0) (pa_cons (pe_glob (v := V.ref (gA "Tie" K)) rfl (g_Tie c) rfl) pa_nil))) (pe_one (pe_cmpR op_le (pe_op op_add (pe_callB (call_max2 rfl) (by rfl) (f_max c) (by decide +kernel) (pa_cons (pe_at (get_first c (hr.mono (by decide))) (pv 0)) (pa_cons (pe_at (get_second c (hr.mono (by decide))) (pv 0)) pa_nil))) (pe_at (get_length c (hr.mono (by decide))) (pv 0))) (pv 1) (nomark _))))))), ?_⟩
  refine ⟨_, rfl, v, t, rfl, ht, _, rfl, ifY rfl ?_⟩
  obtain ⟨a, dx, rfl, ha⟩ := id ht
  refine ⟨_, rfl, t, ht, _, rfl, t, ht, _, _, rfl, _, rfl, t, ht, _, _, rfl, rfl, _, rfl, _, _, rfl, rfl, ?_⟩
  have e : decide ((if t.s > t.f then t.s else t.f) + t.l ≤ n) = true := by
    rw [decide_eq_true_eq]
    split
    · exact h2
    · exact h1
  show Q (V.bl (decide ((if t.s > t.f then t.s else t.f) + t.l ≤ n))) H
  rw [e]
  exact hQ
abbrev n_size_told : List Str := ["line", "parts", "size"]
abbrev pr_size_told : List Str := ["line"]
theorem sc_size_told : FnScope n_size_told pr_size_told (defScope s_size_told) := ⟨rfl, rfl, rfl, by decide +kernel, rfl, by decide +kernel, by decide +kernel⟩

def spSize : Sp := fun vs H Q _ => ∃ n : Int, vs = [V.str (S (sizeL n))] ∧ 1 ≤ n ∧ n ≤ 10 ^ 30 ∧ ∀ H', Same H H' → Q (V.int n) H'
theorem ok_size_told (c : Env K mg) : Pm P w K mg base 2 (d_size_told.at_ K) spSize := by
  obtain ⟨fd, F⟩ := fd_size_told c
  refine .mk0 (F.ok sc_size_told (ps := pr_size_told) (by intro vs H Q E h; obtain ⟨_, rfl, _⟩ := h; rfl) fun cdv A0 outer s0 H vs Q E hr h => ?_) (FunD.bindsN F fun _ _ _ _ _ _ us hl => match us, hl with | [_], _ => rfl) F.kp
  obtain ⟨n, rfl, h1, h2, hQ⟩ := h
  refine ⟨_, (PSs.nox (pss_cons (ps_set (i := 1) sc_size_told.nd rfl (Or.inl rfl) (pe_callF (ok_line_parts c) (hr.mono (by decide)) rfl (g_line_parts c) (pa_cons (pv 0) (pa_cons (pe_glob (v := V.str "size") rfl (z_SIZE c).choose_spec ⟨_, rfl⟩) (pa_cons pe_int pa_nil)))))
    (pss_cons (ps_set (i := 2) sc_size_told.nd rfl (Or.inl rfl) (pe_ifExp (pt_cmpR op_notN (pv 1) pe_non (nomark _)) (pe_callF (ok_number_told c) (hr.mono (by decide)) rfl (g_number_told c) (pa_cons (pe_ix ix_list (pv 1) pe_int (fun _ _ => rfl)) pa_nil)) pe_non))
    (pss_one (ps_ret (pe_ifExp (PW.pt (pw_and (pt_cmpR op_notN (pv 2) pe_non (nomark _)) (pw_and1 (pt_chain op_le op_le pe_int (pv 2) (pe_glob (v := V.int 1000000000000000000000000000000) rfl (i_END c).choose_spec ⟨_, rfl⟩))))) (pv 2) pe_non)))))), ?_⟩
  refine ⟨_, rfl, [intL n], wSize, wSize, 1, rfl, ?_, ?_, (show 1 ≤ 100 by decide), fun _ _ D H1 s1 nD hD => ?_, fun q => absurd rfl q, fun _ => rfl⟩
  · intro p hp
    simp only [List.mem_cons, List.not_mem_nil, or_false] at hp
    rcases hp with rfl | rfl
    · exact wSize_free (by decide)
    · exact free_of (.inl (by decide))
  · rw [S_len]
    exact Nat.le_trans (sizeL_len h1 h2) (by decide)
  refine ⟨_, rfl, rfl, _, rfl, ifY (by rfl) ?_⟩
  refine ⟨_, rfl, D, _, _, _, rfl, rfl, .of hD, rfl, n, rfl, size_small h1 h2, fun H2 s2 => ?_⟩
  refine ⟨_, rfl, rfl, _, rfl, ifY (by rfl) ?_⟩
  refine ⟨_, rfl, _, _, rfl, rfl, _, rfl, ?_⟩
  rw [decide_eq_true h1]
  refine ifY rfl ?_
  refine ⟨_, _, rfl, rfl, _, rfl, ?_⟩
  rw [decide_eq_true (show n ≤ 1000000000000000000000000000000 from h2)]
  exact ifY rfl ⟨_, rfl, hQ _ (s1.trans s2)⟩
abbrev n_tie_in : List Str := ["line", "size", "found"]
abbrev pr_tie_in : List Str := ["line", "size"]
theorem sc_tie_in : FnScope n_tie_in pr_tie_in (defScope s_tie_in) := ⟨rfl, rfl, rfl, by decide +kernel, rfl, by decide +kernel, by decide +kernel⟩

def spTieIn (K : Fg) : Sp := fun vs H Q _ => ∃ r n, vs = [V.str (S (tieL r)), V.int n] ∧ RowT n r ∧ ∀ v H', Same H H' → TieAt K H' v (Lad.tieOf r) → Q v H'
theorem ok_tie_in (c : Env K mg) : Pm P w K mg base 5 (d_tie_in.at_ K) (spTieIn K) := by
  obtain ⟨fd, F⟩ := fd_tie_in c
  refine .mk0 (F.ok sc_tie_in (ps := pr_tie_in) (by intro vs H Q E h; obtain ⟨_, _, rfl, _⟩ := h; rfl) fun cdv A0 outer s0 H vs Q E hr h => ?_) (FunD.bindsN F fun _ _ _ _ _ _ us hl => match us, hl with | [_, _], _ => rfl) F.kp
  obtain ⟨r, n, rfl, hr6, hQ⟩ := h
  refine ⟨_, (PSs.nox (pss_cons (ps_set (i := 2) sc_tie_in.nd rfl (Or.inl rfl) (pe_ifExp (pt_val (pe_bm PySem.F.plainAttrs_str PySem.F.slot_str_startswith PySem.F.type_str_startswith mt_startswith (pv 0) (pa_cons (pe_op op_add_str (pe_glob (v := V.str "tie") rfl (z_TIE c).choose_spec ⟨_, rfl⟩) (pe_glob (v := V.str " ") rfl (z_BLANK c).choose_spec ⟨_, rfl⟩)) pa_nil))) (pe_callF (ok_tie_told c) (hr.mono (by decide)) rfl (g_tie_told c) (pa_cons (pe_bm PySem.F.plainAttrs_str PySem.F.slot_str_removeprefix PySem.F.type_str_removeprefix mt_removeprefix (pv 0) (pa_cons (pe_op op_add_str (pe_glob (v := V.str "tie") rfl (z_TIE c).choose_spec ⟨_, rfl⟩) (pe_glob (v := V.str " ") rfl (z_BLANK c).choose_spec ⟨_, rfl⟩)) pa_nil)) pa_nil)) pe_non))
    (pss_one (ps_ret (pe_ifExp (PW.pt (pw_and (pt_cmpR op_notN (pv 2) pe_non (nomark _)) (pw_and1 (pt_val (pe_callF (ok_is_tie_within c) (hr.mono (by decide)) rfl (g_is_tie_within c) (pa_cons (pv 2) (pa_cons (pv 1) pa_nil))))))) (pv 2) pe_non))))), ?_⟩
  have hS : (S (joinL [32] (rw6 r))).length ≤ 50000 := by
    have := tieL_len hr6
    rw [tieL_eq, List.length_append] at this
    rw [S_len]
    omega
  have hT : (S (tieL r)).length ≤ sizeLine := by
    rw [S_len]
    exact line_big (Nat.le_trans (tieL_len hr6) (by decide))
  refine ⟨_, rfl, rfl, _, _, rfl, rfl, (by decide +kernel), _, _, rfl, rfl, _, rfl, ?_⟩
  rw [k_ts, tieL_eq, starts_pre]
  refine ifY rfl ?_
  refine ⟨_, rfl, rfl, _, _, rfl, rfl, (by decide +kernel), _, _, rfl, rfl, (by rw [← tieL_eq]; exact hT), ?_⟩
  rw [k_ts, remove_pre]
  refine ⟨r.f, r.s, r.l, r.a, r.d, r.b, rfl, hr6.ar, hr6.am, hS, fun v H1 s1 tv => ?_⟩
  obtain ⟨a, dx, rfl, ha⟩ := id tv
  refine ⟨_, rfl, rfl, _, rfl, ifY (by rfl) ?_⟩
  refine ⟨_, rfl, _, rfl, _, _, _, rfl, tv, hr6.fe, hr6.se, _, rfl, ifY rfl ⟨_, rfl, hQ _ _ s1 tv⟩⟩
abbrev n_note_in : List Str := ["line", "size", "parts", "numbers"]
abbrev pr_note_in : List Str := ["line", "size"]
theorem sc_note_in : FnScope n_note_in pr_note_in (defScope s_note_in) := ⟨rfl, rfl, rfl, by decide +kernel, rfl, by decide +kernel, by decide +kernel⟩

def spNoNote : Sp := fun vs H Q _ => ∃ r n m, vs = [V.str (S (tieL r)), V.int n] ∧ RowT m r ∧ ∀ H', Same H H' → Q .non H'
theorem ok_note_in (c : Env K mg) : Pm P w K mg base 3 (d_note_in.at_ K) spNoNote := by
  obtain ⟨fd, F⟩ := fd_note_in c
  refine .mk0 (F.ok sc_note_in (ps := pr_note_in) (by intro vs H Q E h; obtain ⟨_, _, _, rfl, _⟩ := h; rfl) fun cdv A0 outer s0 H vs Q E hr h => ?_) (FunD.bindsN F fun _ _ _ _ _ _ us hl => match us, hl with | [_, _], _ => rfl) F.kp
  obtain ⟨r, n, m, rfl, hr6, hQ⟩ := h
  refine ⟨_, (PSs.nox (pss_cons (ps_set (i := 2) sc_note_in.nd rfl (Or.inl rfl) (pe_callF (ok_line_parts c) (hr.mono (by decide)) rfl (g_line_parts c) (pa_cons (pv 0) (pa_cons (pe_glob (v := V.str "note") rfl (z_NOTE_books c).choose_spec ⟨_, rfl⟩) (pa_cons (pe_glob (v := V.int 2) rfl (i_PAIR c).choose_spec ⟨_, rfl⟩) pa_nil)))))
    (pss_cons (ps_set (i := 3) sc_note_in.nd rfl (Or.inl rfl) (pe_ifExp (pt_cmpR op_notN (pv 2) pe_non (nomark _)) (pe_callF (ok_numbers_told c) (hr.mono (by decide)) rfl (g_numbers_told c) (pa_cons (pv 2) pa_nil)) pe_non))
    (pss_cons (ps_if (PW.pt (pw_or (pt_cmpR op_isN (pv 3) pe_non (nomark _)) (pw_or1 (pt_not (pt_chain op_le op_lt pe_int (pe_ix ix_list (pv 3) pe_int (fun _ _ => rfl)) (pv 1)))))) (pss_one (ps_ret pe_non)) pss_nil)
    (pss_one (ps_ret (pe_callTy call_tuple_of (by rfl) (f_tuple c) (by decide +kernel) (pa_cons (pv 3) pa_nil)))))))), ?_⟩
  refine ⟨_, rfl, rw6 r, wTie, [110, 111, 116, 101], 2, ?_, ?_, ?_, ?_, fun q => absurd q (by decide), fun _ H1 s1 => ?_, fun q => absurd q (by decide)⟩
  · rw [k_note]
    rfl
  · intro p hp
    rcases List.mem_cons.mp hp with rfl | hp
    · exact wTie_free (by decide)
    · exact rowW_free (by decide) p hp
  · rw [S_len]
    exact Nat.le_trans (tieL_len hr6) (by decide)
  · exact Nat.le_trans rowW_n (by decide)
  refine ⟨_, rfl, rfl, _, rfl, ifN (by rfl) ?_⟩
  refine ⟨_, rfl, rfl, _, rfl, ifY (by rfl) (hQ _ s1)⟩
abbrev n_read_book : List Str := ["text", "lines", "size", "ties", "notes", "at", "line", "tie", "told", "place", "note"]
abbrev pr_read_book : List Str := ["text"]
theorem sc_read_book : FnScope n_read_book pr_read_book (defScope s_read_book) := ⟨rfl, rfl, rfl, by decide +kernel, rfl, by decide +kernel, by decide +kernel⟩

def spReadB (K : Fg) : Sp := fun vs H Q _ => ∃ n rs, vs = [V.str (S (bookL n rs))] ∧ 1 ≤ n ∧ n ≤ 10 ^ 30 ∧ rs.length ≤ 6 ∧ (∀ r ∈ rs, RowT n r) ∧
  ∀ p Ti No us H', Same H H' → H' p = some (.tup [V.int n, .ref Ti, .ref No]) → H' Ti = some (.tup us) → H' No = some (.tup []) → Paired (TieAt K H') us (rs.map Lad.tieOf) → Q (.ref p) H'
theorem ok_read_book (c : Env K mg) : Pm P w K mg base 6 (d_read_book.at_ K) (spReadB K) := by
  obtain ⟨fd, F⟩ := fd_read_book c
  refine .mk0 (F.ok sc_read_book (ps := pr_read_book) (by intro vs H Q E h; obtain ⟨_, _, rfl, _⟩ := h; rfl) fun cdv A0 outer s0 H vs Q E hr h => ?_) (FunD.bindsN F fun _ _ _ _ _ _ us hl => match us, hl with | [_], _ => rfl) F.kp
  obtain ⟨n, rs, rfl, h1, h2, hn, hrs, hQ⟩ := h
  have ne : sizeL n :: rs.map tieL ≠ [] := List.cons_ne_nil _ _
  have esp : Txt.split (S (bookL n rs)) (Str.ofString "\n") = (sizeL n :: rs.map tieL).map S := by
    unfold bookL
    rw [k_feed, split_S (by decide) (by decide), TL.spl_join ne (fun p hp => by
      rcases List.mem_cons.mp hp with rfl | hp
      · exact sizeL_feed n
      · obtain ⟨r, _, rfl⟩ := List.mem_map.mp hp
        exact tieL_feed r)]
  have hlen : (S (bookL n rs)).length ≤ 50000 := by
    rw [S_len]
    have q := joinL_len (sep := [10]) (m := 5000) (ps := sizeL n :: rs.map tieL) (fun p hp => by
      rcases List.mem_cons.mp hp with rfl | hp
      · exact sizeL_len h1 h2
      · obtain ⟨r, hr', rfl⟩ := List.mem_map.mp hp
        exact tieL_len (hrs r hr'))
    rw [List.length_cons, List.length_map] at q
    unfold bookL
    refine Nat.le_trans q ?_
    show (rs.length + 1) * 5001 ≤ 50000
    omega
  refine ⟨_, (PSs.nox (pss_cons (ps_if (pt_not (pt_val (pe_callB (is_str "str" true (by decide +kernel)) (by rfl) (f_isinstance c) (by decide +kernel) (pa_cons (pv 0) (pa_cons (pe_bltn (v := V.ty "str") (u := Value.type "str") (by rfl) (f_str c) (by decide +kernel) rfl) pa_nil))))) (pss_one ps_never) pss_nil)
    (pss_cons (ps_set (i := 1) sc_read_book.nd rfl (Or.inl rfl) (pe_split (pv 0) (pe_glob (v := V.str "\n") rfl (z_FEED c).choose_spec ⟨_, rfl⟩)))
    (pss_cons (ps_set (i := 2) sc_read_book.nd rfl (Or.inl rfl) (pe_callF (ok_size_told c) (hr.mono (by decide)) rfl (g_size_told c) (pa_cons (pe_ix ix_list (pv 1) pe_int (fun _ _ => rfl)) pa_nil)))
    (pss_cons (ps_if (pt_cmpR op_isN (pv 2) pe_non (nomark _)) (pss_one ps_never) pss_nil)
    (pss_cons (ps_set (i := 3) sc_read_book.nd rfl (Or.inl rfl) (pe_lst pa_nil))
    (pss_cons (ps_set (i := 4) sc_read_book.nd rfl (Or.inl rfl) (pe_lst pa_nil))
    (pss_cons (ps_for PassesOwn.never rfl (pi_enum (by rfl) (f_enumerate c) (pa_cons (pe_slice sl_list (pv 1) (po_some pe_int) po_none) pa_nil)) (pg_tup rfl (pgs_cons (pg_name (i := 5) sc_read_book.nd rfl (Or.inl rfl)) (pgs_cons (pg_name (i := 6) sc_read_book.nd rfl (Or.inl rfl)) pgs_nil)))
    (pss_cons (ps_par (i := 7) (j := 8) (by rfl) sc_read_book.nd rfl rfl (by decide) rfl rfl (pa_cons (pe_callF (ok_tie_in c) (hr.mono (by decide)) rfl (g_tie_in c) (pa_cons (pv 6) (pa_cons (pv 2) pa_nil))) (pa_cons (pe_callF (ok_note_in c) (hr.mono (by decide)) rfl (g_note_in c) (pa_cons (pv 6) (pa_cons (pv 2) pa_nil))) pa_nil)) (by rfl))
    (pss_one (ps_if (PW.pt (pw_and (pt_cmpR op_notN (pv 7) pe_non (nomark _)) (pw_and (pt_cmpR (op_eqNil hr.units0) (pv 4) (pe_lst pa_nil) (nomark _)) (pw_and1 (pt_cmpR op_lt (pe_callB call_len_seq (by rfl) (f_len c) (by decide +kernel) (pa_cons (pv 3) pa_nil)) (pe_glob (v := V.int 12) rfl (i_MOST c).choose_spec ⟨_, rfl⟩) (nomark _)))))) (pss_one (ps_expr (pe_bm PySem.F.plainAttrs_list PySem.F.slot_list_append PySem.F.type_list_append mt_append (pv 3) (pa_cons (pv 7) pa_nil)))) (pss_one (ps_if (PW.pt (pw_and (pt_cmpR op_notN (pv 8) pe_non (nomark _)) (pw_and (pt_cmpR op_lt (pe_callB call_len_seq (by rfl) (f_len c) (by decide +kernel) (pa_cons (pv 4) pa_nil)) (pe_glob (v := V.int 12) rfl (i_MOST c).choose_spec ⟨_, rfl⟩) (nomark _)) (pw_and1 (pt_cmpR op_notIn_seq (pe_ix ix_tup (pv 8) pe_int (fun _ _ => rfl)) (pe_lc (own := [("place", 9), ("note", 10)]) (g := (gTup _ 2 (gCons (gName 9) (gCons (gName 10) gNil)))) (tt := tYes) (by rfl) sc_read_book.nd (pi_list (pv 4)) (blkOk_by (own := [("place", 9), ("note", 10)]) (N := n_read_book) (sc := defScope s_read_book) (by decide +kernel)) (fun _ _ _ _ _ => (pg_tup rfl (pgs_cons (pg_name (i := 9) sc_read_book.nd rfl (Or.inl rfl)) (pgs_cons (pg_name (i := 10) sc_read_book.nd rfl (Or.inl rfl)) pgs_nil)))) (fun _ _ _ _ _ => pts_nil) (fun _ _ _ _ _ => (pv 9))) (by rfl)))))) (pss_one (ps_expr (pe_bm PySem.F.plainAttrs_list PySem.F.slot_list_append PySem.F.type_list_append mt_append (pv 4) (pa_cons (pv 8) pa_nil)))) (pss_one ps_never)))))))
    (pss_one (ps_ret (pe_tup (pa_cons (pv 2) (pa_cons (pe_callTy call_tuple_of (by rfl) (f_tuple c) (by decide +kernel) (pa_cons (pv 3) pa_nil)) (pa_cons (pe_callTy call_tuple_of (by rfl) (f_tuple c) (by decide +kernel) (pa_cons (pv 4) pa_nil)) pa_nil)))))))))))))), ?_⟩
  refine ⟨_, rfl, _, rfl, _, rfl, ifN rfl ?_⟩
  refine ⟨_, rfl, ⟨_, rfl⟩, _, _, rfl, rfl, by decide +kernel, line_big (by omega), ?_⟩
  rw [esp]
  intro p np
  have s1 := same_upd (o := .lst (((sizeL n :: rs.map tieL).map S).map V.str)) np
  have hp := @upd_same H p (.lst (((sizeL n :: rs.map tieL).map S).map V.str))
  revert s1 hp
  generalize upd H p (.lst (((sizeL n :: rs.map tieL).map S).map V.str)) = H1
  intro s1 hp
  refine ⟨_, rfl, p, _, _, _, rfl, rfl, .of hp, atI_nat (xs := ((sizeL n :: rs.map tieL).map S).map V.str) (j := 0) rfl, n, rfl, h1, h2, fun H2 s2 => ?_⟩
  refine ⟨_, rfl, rfl, _, rfl, ifN (by rfl) ?_⟩
  refine ⟨Nat.zero_le _, fun T nT => ⟨Nat.zero_le _, fun N nN => ?_⟩⟩
  have hp3 := same_upd nN _ _ (same_upd nT _ _ (s2 _ _ hp)) (o := .lst [])
  have s3 : Same H (upd (upd H2 T (.lst [])) N (.lst [])) := s1.trans (s2.trans ((same_upd nT).trans (same_upd nN)))
  have hT3 : (upd (upd H2 T (.lst [])) N (.lst [])) T = some (.lst []) := same_upd nN _ _ upd_same
  have hN3 : (upd (upd H2 T (.lst [])) N (.lst [])) N = some (.lst []) := upd_same
  have nTN : T ≠ N := ne_of_none (H := upd H2 T (.lst [])) upd_same nN
  have fT : H T = none := (s1.trans s2).free nT
  have fN : H N = none := (s1.trans (s2.trans (same_upd nT))).free nN
  revert hp3 s3 hT3 hN3
  generalize upd (upd H2 T (.lst [])) N (.lst []) = H3
  intro hp3 s3 hT3 hN3
  refine ⟨_, rfl, _, rfl, p, _, rfl, .of hp3, fun L nL => ?_⟩
  rw [show cutV (List.map V.str (List.map S (sizeL n :: rs.map tieL))) (some 1) none = ((rs.map tieL).map S).map V.str from cut_tail _ _]
  refine ⟨L, _, rfl, .of upd_same, ?_⟩
  have nTL : T ≠ L := ne_of_none hT3 nL
  have hT4 := same_upd nL (o := .lst (((rs.map tieL).map S).map V.str)) _ _ hT3
  have hN4 := same_upd nL (o := .lst (((rs.map tieL).map S).map V.str)) _ _ hN3
  have s4 := s3.trans (same_upd nL (o := .lst (((rs.map tieL).map S).map V.str)))
  have hL4 := @upd_same H3 L (.lst (((rs.map tieL).map S).map V.str))
  revert hT4 hN4 s4 hL4
  generalize upd H3 L (.lst (((rs.map tieL).map S).map V.str)) = H4
  intro hT4 hN4 s4 hL4
  refine for_it (walk_enum (xs := ((rs.map tieL).map S).map V.str)) (fun i σ H' => ∃ z5 z6 z7 z8 us, σ = [some (V.str (S (bookL n rs))), some (.ref p), some (.int n), some (.ref T), some (.ref N), z5, z6, z7, z8, none, none] ∧ H' L = some (.lst (((rs.map tieL).map S).map V.str)) ∧ H' T = some (.lst us) ∧ H' N = some (.lst []) ∧ Paired (TieAt K H') us ((rs.map Lad.tieOf).take i) ∧ Same H H') ⟨_, _, _, _, [], rfl, hL4, hT4, hN4, .nil, s4⟩ (fun i σ H' _ e => by
    obtain ⟨_, _, _, _, _, _, e, _⟩ := e
    exact .of e) (fun i x σ H' H5 hi q hy => ?_) (fun σ H' q => ?_)
  · obtain ⟨z5, z6, z7, z8, us, rfl, hL, hT, hN, pa, sH⟩ := q
    obtain ⟨A, xa, xb, rfl, hA, rfl, ex, ey⟩ := hy
    obtain rfl : V.int (i : Int) = xa := Option.some.inj ex
    rw [List.length_map, List.length_map, List.length_map] at hi
    have er : ∃ r, rs[i]? = some r ∧ xb = V.str (S (tieL r)) := by
      have ey : (((rs.map tieL).map S).map V.str)[i]? = some xb := ey
      rw [List.getElem?_map, List.getElem?_map, List.getElem?_map, List.getElem?_eq_getElem hi] at ey
      exact ⟨rs[i], List.getElem?_eq_getElem hi, (Option.some.inj ey).symm⟩
    obtain ⟨r, er, rfl⟩ := er
    have hr1 := hrs r (List.mem_of_getElem? er)
    have sA := same_upd (o := .tup [V.int (i : Int), V.str (S (tieL r))]) hA
    have hL2 := sA _ _ hL
    have hT2 := sA _ _ hT
    have hN2 := sA _ _ hN
    have s5 := sH.trans sA
    have pa2 := pair_mono pa fun _ _ (y : TieAt K _ _ _) => y.mono sA
    have hA2 : (upd H' A (.tup [V.int (i : Int), V.str (S (tieL r))])) A = some (.tup [V.int (i : Int), V.str (S (tieL r))]) := upd_same
    revert hL2 hT2 hN2 s5 pa2 hA2
    generalize upd H' A (.tup [V.int (i : Int), V.str (S (tieL r))]) = H6
    intro hL2 hT2 hN2 s5 pa2 hA2
    refine ⟨A, _, rfl, .of hA2, rfl, _, _, rfl, _, _, rfl, rfl, ?_⟩
    refine ⟨_, rfl, _, rfl, r, n, rfl, hr1, fun v H7 s7 tv => ⟨_, rfl, _, rfl, r, n, n, rfl, hr1, fun H8 s8 => ?_⟩⟩
    obtain ⟨va, vd, rfl, hva⟩ := id tv
    refine ⟨_, _, rfl, ?_⟩
    have s78 := s7.trans s8
    have hN8 := s78 _ _ hN2
    have hT8 := s78 _ _ hT2
    have hlu := pair_len pa2
    rw [List.length_take, List.length_map] at hlu
    refine ⟨_, rfl, rfl, _, rfl, ifY (by rfl) ?_⟩
    refine ⟨_, rfl, Nat.zero_le _, fun e ne => ⟨N, e, [], rfl, rfl, .of (same_upd ne _ _ hN8), .of upd_same, _, rfl, ifY (by rfl) ?_⟩⟩
    have s9 := s78.trans (same_upd ne (o := .lst []))
    have tv9 := tv.mono (s8.trans (same_upd ne (o := .lst [])))
    revert s9 tv9
    generalize upd H8 e (.lst []) = H9
    intro s9 tv9
    refine ⟨_, rfl, T, us, rfl, .inl (.of (s9 _ _ hT2)), _, _, rfl, rfl, _, rfl, ?_⟩
    rw [decide_eq_true (show ((us.length : Nat) : Int) < 12 by omega)]
    refine ifY rfl ?_
    refine ⟨_, rfl, .inl ⟨rfl, _, .of (s9 _ _ hT2)⟩, _, rfl, T, us, _, rfl, rfl, s9 _ _ hT2, lt_line (by omega), ?_⟩
    have xs := Xs.lst (ys := us ++ [V.ref va]) (s9 _ _ hT2)
    refine ⟨_, _, _, _, us ++ [V.ref va], rfl, ?_, upd_same, ?_, ?_, same_set (s5.trans s9) fT⟩
    · rw [upd_ne nTL.symm]
      exact s9 _ _ hL2
    · rw [upd_ne nTN.symm]
      exact s9 _ _ hN2
    · rw [List.take_add_one, List.getElem?_map, er]
      exact pair_app (pair_mono pa2 fun _ _ y => (y.mono s9).xs xs) (.cons (tv9.xs xs) .nil)
  · obtain ⟨z5, z6, z7, z8, us, rfl, hL, hT, hN, pa, sH⟩ := q
    rw [List.length_map, List.length_map, List.length_map, List.take_of_length_le (by rw [List.length_map]; omega)] at pa
    have hlu := pair_len pa
    rw [List.length_map] at hlu
    refine ⟨_, rfl, _, rfl, T, us, rfl, .inl ⟨.of hT, fun a na => ⟨_, rfl, N, [], rfl, .inl ⟨.of (same_upd na _ _ hN), fun b nb => ⟨by show 3 ≤ sizeLine; decide, fun z nz => ?_⟩⟩⟩⟩⟩
    have sx := (same_upd na (o := .tup us)).trans ((same_upd nb (o := .tup [])).trans (same_upd nz (o := .tup [V.int n, .ref a, .ref b])))
    exact hQ z a b us _ (sH.trans sx) upd_same (same_upd nz _ _ (same_upd nb _ _ upd_same)) (same_upd nz _ _ upd_same) (pair_mono pa fun _ _ y => y.mono sx)
end
end TT

-- W21
set_option Elab.async false
set_option linter.all false
set_option maxRecDepth 100000
set_option maxHeartbeats 4000000
namespace TT
open PySem PySem.Spec PyProof.Rows L2 SX TL
section
variable {P : Program} {w : World} {K : Fg} {mg : Str → Option Value} {base : Heap}
abbrev n_Book_init : List Str := ["self", "text"]
abbrev pr_Book_init : List Str := ["self", "text"]
theorem sc_Book_init : FnScope n_Book_init pr_Book_init (defScope s_Book_init) := ⟨rfl, rfl, rfl, by decide +kernel, rfl, by decide +kernel, by decide +kernel⟩

def spBookInit (K : Fg) : Sp := fun vs H Q _ => ∃ x dx n rs, vs = [V.ref x, V.str (S (bookL n rs))] ∧ H x = some (.ins (cB K) dx []) ∧ 1 ≤ n ∧ n ≤ 10 ^ 30 ∧ rs.length ≤ 6 ∧ (∀ r ∈ rs, RowT n r) ∧
  ∀ H', (∀ q o, H q = some o → q ≠ x → H' q = some o) → (∀ F, BookAt K H' x n (rs.map Lad.tieOf) F) → Q .non H'
theorem ok_Book_init (c : Env K mg) : Pm P w K mg base 7 (d_Book_init.at_ K) (spBookInit K) := by
  obtain ⟨fd, F⟩ := fd_Book_init c
  refine .mk0 (F.ok sc_Book_init (ps := pr_Book_init) (by intro vs H Q E h; obtain ⟨_, _, _, _, rfl, _⟩ := h; rfl) fun cdv A0 outer s0 H vs Q E hr h => ?_) (FunD.bindsN F fun _ _ _ _ _ _ us hl => match us, hl with | [_, _], _ => rfl) F.kp
  obtain ⟨x, dx, n, rs, rfl, hx, h1, h2, hn, hrs, hQ⟩ := h
  refine ⟨_, (PSs.nox (pss_cons (ps_asg (pe_callF (ok_read_book c) (hr.mono (by decide)) rfl (g_read_book c) (pa_cons (pv 1) pa_nil)) (pg_tup rfl (pgs_cons (pg_fld (pv 0)) (pgs_cons (pg_fld (pv 0)) (pgs_cons (pg_fld (pv 0)) pgs_nil)))))
    (pss_cons (ps_fld (pv 0) (pv 1) rfl)
    (pss_one (ps_fld (pv 0) pe_non rfl))))), ?_⟩
  refine ⟨_, rfl, n, rs, rfl, h1, h2, hn, hrs, fun p Ti No us H2 s2 h2' hTi hNo pa => ?_⟩
  have hx2 := s2 _ _ hx
  refine ⟨p, _, rfl, .of h2', rfl, _, _, rfl, _, rfl, _, _, _, _, rfl, hx2, c_Book c, n_Book_own_size c, (show (0 : Nat) < 1000 by decide), ?_⟩
  refine ⟨_, _, rfl, _, rfl, _, _, _, _, rfl, upd_same, c_Book c, n_Book_own_ties c, (show (1 : Nat) < 1000 by decide), ?_⟩
  refine ⟨_, _, rfl, _, rfl, _, _, _, _, rfl, upd_same, c_Book c, n_Book_own_notes c, (show (2 : Nat) < 1000 by decide), rfl, ?_⟩
  refine ⟨_, rfl, _, rfl, _, _, _, _, rfl, upd_same, c_Book c, n_Book_own_text c, (show (3 : Nat) < 1000 by decide), ?_⟩
  refine ⟨_, rfl, _, _, _, _, rfl, upd_same, c_Book c, n_Book_own_ladder c, (show (4 : Nat) < 1000 by decide), ?_⟩
  rw [upd_upd, upd_upd, upd_upd, upd_upd]
  have nTi : Ti ≠ x := ne_of hTi hx2 (by intro q; cases q)
  have nNo : No ≠ x := ne_of hNo hx2 (by intro q; cases q)
  refine hQ _ (fun q o e nq => by rw [upd_ne nq]; exact s2 _ _ e) fun F => ⟨dx, Ti, No, _, .non, us, (by rw [upd_same]; rfl), (by rw [upd_ne nTi]; exact hTi), ?_, (by rw [upd_ne nNo]; exact hNo), .inl rfl⟩
  refine pair_mono pa fun _ _ y => ?_
  obtain ⟨ta, td, rfl, hta⟩ := y
  refine ⟨ta, td, rfl, ?_⟩
  rw [upd_ne (ne_of hta hx2 fun z => ?_)]
  · exact hta
  · have e : tieFs _ = ([] : List (Str × V)) := (HO.ins.inj z).2.2
    cases e
end
section
variable {X : Cx}
def tNewB (K : Fg) (t : TA) : TE := fun σ H Q => t σ H fun vs H1 => ∃ n rs, vs = [V.str (S (bookL n rs))] ∧ 1 ≤ n ∧ n ≤ 10 ^ 30 ∧ rs.length ≤ 6 ∧ (∀ r ∈ rs, RowT n r) ∧
  ∀ b H', Same H1 H' → H1 b = none → (∀ F, BookAt K H' b n (rs.map Lad.tieOf) F) → Q (.ref b) H'
theorem pe_book {e : Expr} {es : List Expr} {p pos : Pos} {t : TA} (c : Env X.K X.mg) (hr : Room 8 X.A) (hg : Gl X "Book") (ha : PA X (e :: es) t)
    (he : starEach (e :: es) X.env = (false, eval e X.env) :: starEach es X.env := by rfl) (hpl : (backTo pos (starEach es X.env)).any (·.1) = false := by rfl) : PE X (.Call (.Name "Book" p) (e :: es) [] pos) (tNewB X.K t) := by
  refine PEwk (StX.pe_makeR (k_Book c) (ok_Book_init (P := X.prog) (w := X.w) (base := X.base) c).run hr hg (g_Book c) pass0 (PAmc ha) (by decide) he hpl) fun σ H Q h => ⟨_, h, fun vs H1 q x dx hx hd ne => ?_⟩
  obtain ⟨n, rs, rfl, h1, h2, hn, hrs, q⟩ := q
  exact ⟨x, dx, n, rs, rfl, upd_same, h1, h2, hn, hrs, fun H' fr hB => ⟨rfl, q x _ (made_of (fs := []) hx hd ne fr) hx hB⟩⟩
end
end TT

-- W22
set_option Elab.async false
set_option linter.all false
set_option maxRecDepth 100000
set_option maxHeartbeats 4000000
namespace TT
open PySem PySem.Spec PyProof.Rows L2 SX TL
def CPowW (i j : Int) : Prop := 0 ≤ j ∧ (Builtin.Int.intBits i : Int) * j ≤ 2 ^ 27
theorem op_powW {X : Cx} : OpR X (binaryOp .Pow) (rI CPowW fun i j => .int (i ^ j.toNat)) := opI fun _ _ _ _ _ _ _ hc q => pow_int hc.1 hc.2 q
theorem sb_upd {H : Hp} (g : Addr) {o : HO} : Sb g H (upd H g o) := fun q u e n => by rw [upd_ne n]; exact e
theorem primes_at {j : Int} (h0 : 0 ≤ j) (h1 : j < 5) : ∃ q : Int, atI [V.int 2147483647, V.int 2147483629, V.int 2147483587, V.int 2147483579, V.int 2147483563] j = some (V.int q) ∧ 0 < q ∧ q < 2 ^ 31 := by
  have : j = 0 ∨ j = 1 ∨ j = 2 ∨ j = 3 ∨ j = 4 := by omega
  rcases this with rfl | rfl | rfl | rfl | rfl
  · exact ⟨_, rfl, by decide, by decide⟩
  · exact ⟨_, rfl, by decide, by decide⟩
  · exact ⟨_, rfl, by decide, by decide⟩
  · exact ⟨_, rfl, by decide, by decide⟩
  · exact ⟨_, rfl, by decide, by decide⟩
section
variable {P : Program} {w : World} {K : Fg} {mg : Str → Option Value} {base : Heap}
def PotAt (H : Hp) (g : Addr) (k : Int) : Prop := ∃ a b c : Int, H g = some (.lst [V.int a, V.int b, V.int c]) ∧ 0 ≤ a ∧ 0 ≤ b ∧ b < 2 ^ 62 ∧ 0 ≤ c ∧ c ≤ k
abbrev n__law_take : List Str := ["_law_pot_here", "_law_upto", "_law_prime", "_law_stirred", "_law_digit"]
abbrev pr__law_take : List Str := ["_law_pot_here", "_law_upto"]
theorem sc__law_take : FnScope n__law_take pr__law_take (defScope s__law_take) := ⟨rfl, rfl, rfl, by decide +kernel, rfl, by decide +kernel, by decide +kernel⟩

def spTake : Sp := fun vs H Q _ => ∃ g u k, vs = [V.ref g, V.int u] ∧ PotAt H g k ∧ k ≤ 100000 ∧ 1 ≤ u ∧ u.natAbs < 2 ^ 1000 ∧ ∀ r H', 0 ≤ r → r < u → Sb g H H' → PotAt H' g (k + 1) → Q (V.int r) H'
theorem ok__law_take (c : Env K mg) : Pm P w K mg base 1 (d__law_take.at_ K) spTake := by
  obtain ⟨fd, F⟩ := fd__law_take c
  refine .mk0 (F.ok sc__law_take (ps := pr__law_take) (by intro vs H Q E h; obtain ⟨_, _, _, rfl, _⟩ := h; rfl) fun cdv A0 outer s0 H vs Q E hr h => ?_) (FunD.bindsN F fun _ _ _ _ _ _ us hl => match us, hl with | [_, _], _ => rfl) F.kp
  obtain ⟨g, u, k, rfl, ⟨a, b, c0, hg, a0, b0, b1, cc0, c1⟩, hk, u1, u2, hQ⟩ := h
  refine ⟨_, (PSs.nox (pss_cons (ps_if (pt_cmpR op_gt (pe_ix ix_list (pv 0) pe_int (fun _ _ => rfl)) pe_int (nomark _)) (pss_cons (ps_set (i := 4) sc__law_take.nd rfl (Or.inl rfl) (pe_op op_mod (pe_callTy call_int1 (by rfl) (f_int c) (by decide +kernel) (pa_cons (pe_ix ix_list (pv 0) pe_int (fun _ _ => rfl)) pa_nil)) (pv 1)))
    (pss_cons (ps_asg (pe_op op_fdivW (pe_ix ix_list (pv 0) pe_int (fun _ _ => rfl)) (pv 1)) (pg_sub (pv 0) pe_int set_list))
    (pss_one (ps_ret (pv 4))))) pss_nil)
    (pss_cons (ps_asg (pe_op op_add (pe_ix ix_list (pv 0) pe_int (fun _ _ => rfl)) pe_int) (pg_sub (pv 0) pe_int set_list))
    (pss_cons (ps_set (i := 2) sc__law_take.nd rfl (Or.inl rfl) (pe_ix ix_list (pe_lst (pa_cons pe_int (pa_cons pe_int (pa_cons pe_int (pa_cons pe_int (pa_cons pe_int pa_nil)))))) (pe_op op_mod (pe_callTy call_int1 (by rfl) (f_int c) (by decide +kernel) (pa_cons (pe_ix ix_list (pv 0) pe_int (fun _ _ => rfl)) pa_nil)) pe_int) (fun _ _ => rfl)))
    (pss_cons (ps_set (i := 3) sc__law_take.nd rfl (Or.inl rfl) (pe_op op_mod (pe_callTy call_int1 (by rfl) (f_int c) (by decide +kernel) (pa_cons (pe_op op_pow (pe_callTy call_int1 (by rfl) (f_int c) (by decide +kernel) (pa_cons (pe_op op_add (pe_op op_add (pe_ix ix_list (pv 0) pe_int (fun _ _ => rfl)) (pe_op op_mul (pe_op op_mul pe_int (pe_ix ix_list (pv 0) pe_int (fun _ _ => rfl))) (pe_ix ix_list (pv 0) pe_int (fun _ _ => rfl)))) pe_int) pa_nil)) pe_int) pa_nil)) (pv 2)))
    (pss_cons (ps_set (i := 3) sc__law_take.nd rfl (Or.inl rfl) (pe_op op_mod (pe_callTy call_int1 (by rfl) (f_int c) (by decide +kernel) (pa_cons (pe_op op_mul (pv 3) (pe_op op_add (pe_op op_mod (pe_callTy call_int1 (by rfl) (f_int c) (by decide +kernel) (pa_cons (pv 3) pa_nil)) pe_int) (pe_op op_mul pe_int (pe_ix ix_list (pv 0) pe_int (fun _ _ => rfl))))) pa_nil)) pe_int))
    (pss_one (ps_ret (pe_op op_mod (pe_callTy call_int1 (by rfl) (f_int c) (by decide +kernel) (pa_cons (pe_op op_fdiv (pv 3) pe_int) pa_nil)) (pv 1)))))))))), ?_⟩
  refine ⟨_, rfl, g, _, _, _, rfl, rfl, .of hg, rfl, _, _, rfl, rfl, _, rfl, ?_⟩
  by_cases ha : 0 < a
  · rw [decide_eq_true ha]
    refine ifY rfl ?_
    refine ⟨_, rfl, g, _, _, _, rfl, rfl, .of hg, rfl, .inl ⟨_, rfl, _, rfl, _, _, rfl, rfl, (show 0 < u by omega), ?_⟩⟩
    refine ⟨_, rfl, g, _, _, _, rfl, rfl, .of hg, rfl, _, rfl, _, _, rfl, rfl, wide_div (by omega) u2 (by decide) (by decide), _, rfl, g, _, _, _, rfl, rfl, hg, rfl, _, rfl, ?_⟩
    exact hQ _ _ (Int.emod_nonneg _ (by omega)) (Int.emod_lt_of_pos _ (by omega)) (sb_upd g) ⟨a / u, b, c0, upd_same, Int.ediv_nonneg (by omega) (by omega), b0, b1, cc0, by omega⟩
  · rw [decide_eq_false ha]
    refine ifN rfl ?_
    refine ⟨_, rfl, g, _, _, _, rfl, rfl, .of hg, rfl, _, _, rfl, rfl, _, rfl, g, _, _, 2, rfl, rfl, hg, rfl, ?_⟩
    have hg1 : (upd H g (.lst ([V.int a, V.int b, V.int c0].set 2 (V.int (c0 + 1))))) g = some (.lst [V.int a, V.int b, V.int (c0 + 1)]) := upd_same
    have s1 : Sb g H (upd H g (.lst ([V.int a, V.int b, V.int c0].set 2 (V.int (c0 + 1))))) := sb_upd g
    revert hg1 s1
    generalize upd H g (.lst ([V.int a, V.int b, V.int c0].set 2 (V.int (c0 + 1)))) = H1
    intro hg1 s1
    refine ⟨by show 5 ≤ sizeLine; decide, fun p np => ?_⟩
    have hg2 := same_upd (o := .lst [V.int 2147483647, V.int 2147483629, V.int 2147483587, V.int 2147483579, V.int 2147483563]) np _ _ hg1
    have s2 := s1.trans (Sb.of (same_upd (o := .lst [V.int 2147483647, V.int 2147483629, V.int 2147483587, V.int 2147483579, V.int 2147483563]) np))
    have hp2 := @upd_same H1 p (.lst [V.int 2147483647, V.int 2147483629, V.int 2147483587, V.int 2147483579, V.int 2147483563])
    revert hg2 s2 hp2
    generalize upd H1 p (.lst [V.int 2147483647, V.int 2147483629, V.int 2147483587, V.int 2147483579, V.int 2147483563]) = H2
    intro hg2 s2 hp2
    obtain ⟨q, q1, q2, q3⟩ := primes_at (j := (c0 + 1) % 5) (Int.emod_nonneg _ (by decide)) (Int.emod_lt_of_pos _ (by decide))
    refine ⟨_, rfl, g, _, _, _, rfl, rfl, .of hg2, rfl, .inl ⟨_, rfl, _, _, rfl, rfl, (by decide : (0 : Int) < 5), p, _, _, _, rfl, rfl, .of hp2, q1, ?_⟩⟩
    have big : 100193 * (c0 + 1) * (c0 + 1) ≤ 100193 * 100001 * 100001 := by
      have h1 : 100193 * (c0 + 1) ≤ 100193 * 100001 := by omega
      exact Int.le_trans (Int.mul_le_mul_of_nonneg_right h1 (by omega)) (Int.mul_le_mul_of_nonneg_left (by omega) (by omega))
    have nn : 0 ≤ 100193 * (c0 + 1) * (c0 + 1) := Int.mul_nonneg (by omega) (by omega)
    refine ⟨_, rfl, g, _, _, _, rfl, rfl, .of hg2, rfl, _, rfl, g, _, _, _, rfl, rfl, .of hg2, rfl, _, _, rfl, rfl, .inl (by decide), _, rfl, g, _, _, _, rfl, rfl, .of hg2, rfl, _, _, rfl, rfl, .inr (by omega), _, _, rfl, rfl, _, _, rfl, rfl, .inl ⟨_, rfl, _, _, rfl, rfl, ?_, .inl ⟨_, rfl, _, rfl, _, _, rfl, rfl, q2, ?_⟩⟩⟩
    · exact ⟨by decide, by decide, by omega⟩
    show gName 3 (V.int (((b + 100193 * (c0 + 1) * (c0 + 1) + 53) ^ Int.toNat 3) % q)) _ _ _
    generalize hm : ((b + 100193 * (c0 + 1) * (c0 + 1) + 53) ^ Int.toNat 3) % q = m
    have m0 : 0 ≤ m := by rw [← hm]; exact Int.emod_nonneg _ (by omega)
    have m1 : m < q := by rw [← hm]; exact Int.emod_lt_of_pos _ q2
    refine ⟨_, rfl, _, rfl, .inl ⟨_, rfl, _, _, rfl, rfl, (by decide : (0 : Int) < 10061), _, rfl, g, _, _, _, rfl, rfl, .of hg2, rfl, _, _, rfl, rfl, .inl (by decide), _, _, rfl, rfl, _, _, rfl, rfl, .inl ⟨by omega, by omega⟩, .inl ⟨_, rfl, _, _, rfl, rfl, (by decide : (0 : Int) < 2305843009213693907), ?_⟩⟩⟩
    refine ⟨_, rfl, _, _, rfl, rfl, ⟨by decide, by decide⟩, .inl ⟨_, rfl, _, rfl, _, _, rfl, rfl, (show 0 < u by omega), ?_⟩⟩
    exact hQ _ _ (Int.emod_nonneg _ (by omega)) (Int.emod_lt_of_pos _ (by omega)) s2 ⟨a, b, c0 + 1, hg2, a0, b0, b1, by omega, by omega⟩
end
end TT

-- W23
set_option Elab.async false
set_option linter.all false
set_option maxRecDepth 100000
set_option maxHeartbeats 4000000
namespace TT
open PySem PySem.Spec PyProof.Rows L2 SX TL
section
variable {P : Program} {w : World} {K : Fg} {mg : Str → Option Value} {base : Heap}
theorem PotAt.le {H : Hp} {g : Addr} {k k' : Int} (h : PotAt H g k) (e : k ≤ k') : PotAt H g k' := by
  obtain ⟨a, b, c, h1, h2, h3, h4, h5, h6⟩ := h
  exact ⟨a, b, c, h1, h2, h3, h4, h5, by omega⟩
theorem PotAt.mono {H H' : Hp} {g : Addr} {k : Int} (h : PotAt H g k) (s : Same H H') : PotAt H' g k := by
  obtain ⟨a, b, c, h1, h2⟩ := h
  exact ⟨a, b, c, s _ _ h1, h2⟩
theorem sq_sb {K : Fg} {H H' : Hp} {a g : Addr} {xs : List V} (h : SqL K H a xs) (ne : a ≠ g) (s : Sb g H H') : SqL K H' a xs := by
  rcases h with h | h
  · rcases h with h | ⟨o, h⟩
    · exact .inl (.inl (s _ _ h ne))
    · exact .inl (.inr ⟨o, s _ _ h ne⟩)
  · exact .inr h
theorem bit01 (b : Bool) : (-(2 ^ 64) < (if b = true then (1 : Int) else 0) ∧ (if b = true then (1 : Int) else 0) < 2 ^ 64) ∧ 0 ≤ (if b = true then (1 : Int) else 0) := by cases b <;> decide
theorem pow_room : (Builtin.Int.intBits ((10 : Int) ^ Int.toNat 60) : Int) * 5 ≤ 2 ^ 27 := by decide +kernel
theorem pow_pos : (0 : Int) < ((10 : Int) ^ Int.toNat 60) ^ Int.toNat 5 := by decide +kernel
abbrev n__law_pot : List Str := ["_law_script", "_law_number", "_law_cell", "_law_own", "_law_stirred"]
abbrev pr__law_pot : List Str := ["_law_script", "_law_number"]
theorem sc__law_pot : FnScope n__law_pot pr__law_pot (defScope s__law_pot) := ⟨rfl, rfl, rfl, by decide +kernel, rfl, by decide +kernel, by decide +kernel⟩

def spPot (K : Fg) : Sp := fun vs H Q _ => ∃ (s : Addr) (n : Int) (ns : List Int), vs = [V.ref s, V.int n] ∧ SqL K H s (ns.map V.int) ∧ 0 ≤ n ∧ n ≤ 10 ∧ ∀ g H', Same H H' → H g = none → PotAt H' g 0 → Q (V.ref g) H'
theorem ok__law_pot (c : Env K mg) : Pm P w K mg base 1 (d__law_pot.at_ K) (spPot K) := by
  obtain ⟨fd, F⟩ := fd__law_pot c
  refine .mk0 (F.ok sc__law_pot (ps := pr__law_pot) (by intro vs H Q E h; obtain ⟨_, _, _, rfl, _⟩ := h; rfl) fun cdv A0 outer s0 H vs Q E hr h => ?_) (FunD.bindsN F fun _ _ _ _ _ _ us hl => match us, hl with | [_, _], _ => rfl) F.kp
  obtain ⟨s, n, ns, rfl, hs, n0, n1, hQ⟩ := h
  refine ⟨_, (PSs.nox (pss_cons (ps_set (i := 2) sc__law_pot.nd rfl (Or.inl rfl) (pe_ifExp (pt_cmpR op_lt (pv 1) (pe_callB call_len_seq (by rfl) (f_len c) (by decide +kernel) (pa_cons (pv 0) pa_nil)) (nomark _)) (pe_ix ix_list (pv 0) (pv 1) (fun _ _ => rfl)) (pe_op op_add (pe_op op_mul pe_int (pv 1)) pe_int)))
    (pss_cons (ps_set (i := 3) sc__law_pot.nd rfl (Or.inl rfl) (pe_op op_mul (pe_op op_mod (pe_callTy call_int1 (by rfl) (f_int c) (by decide +kernel) (pa_cons (pe_callB call_abs (by rfl) (f_abs c) (by decide +kernel) (pa_cons (pv 2) pa_nil)) pa_nil)) (pe_op op_powW (pe_op op_pow pe_int pe_int) pe_int)) (pe_callTy call_int1 (by rfl) (f_int c) (by decide +kernel) (pa_cons (pe_cmpR op_ge (pe_callB call_abs (by rfl) (f_abs c) (by decide +kernel) (pa_cons (pv 2) pa_nil)) (pe_op op_pow pe_int pe_int) (nomark _)) pa_nil))))
    (pss_cons (ps_set (i := 4) sc__law_pot.nd rfl (Or.inl rfl) (pe_op op_add (pe_op op_add (pe_op op_mul (pe_op op_mod (pe_callTy call_int1 (by rfl) (f_int c) (by decide +kernel) (pa_cons (pv 2) pa_nil)) pe_int) pe_int) (pe_op op_mul (pe_op op_mul pe_int (pv 1)) (pv 1))) pe_int))
    (pss_one (ps_ret (pe_lst (pa_cons (pv 3) (pa_cons (pe_op op_mod (pe_callTy call_int1 (by rfl) (f_int c) (by decide +kernel) (pa_cons (pv 4) pa_nil)) pe_int) (pa_cons pe_int pa_nil)))))))))), ?_⟩
  refine ⟨_, rfl, _, rfl, s, _, rfl, .inl hs, _, _, rfl, rfl, _, rfl, ?_⟩
  rw [List.length_map]
  by_cases hn : n < (ns.length : Nat)
  · rw [decide_eq_true hn]
    refine ifY rfl ?_
    obtain ⟨j, rfl⟩ : ∃ j : Nat, n = j := ⟨n.toNat, by omega⟩
    have hj : j < ns.length := by omega
    refine ⟨_, rfl, _, rfl, s, _, _, V.int ns[j], rfl, rfl, hs, atI_nat (xs := ns.map V.int) (j := j) (by rw [List.getElem?_map, List.getElem?_eq_getElem hj]; rfl), ?_⟩
    generalize ns[j] = x
    generalize (j : Int) = n at *
    refine ⟨_, rfl, _, rfl, .inl ⟨_, rfl, _, _, rfl, rfl, ⟨by decide, by decide, by decide⟩, _, _, rfl, rfl, ⟨by decide, pow_room⟩, _, _, rfl, rfl, pow_pos, _, rfl, _, rfl, _, _, rfl, rfl, ⟨by decide, by decide, by decide⟩, _, _, rfl, rfl, .inr ⟨_, rfl, _, _, rfl, rfl, .inr ?_, ?_⟩⟩⟩
    · exact (bit01 _).1
    refine ⟨_, rfl, .inl ⟨_, rfl, _, _, rfl, rfl, (by decide : (0 : Int) < 2305843009213693951), _, _, rfl, rfl, .inr (by decide), _, rfl, _, _, rfl, rfl, .inl (by decide), _, rfl, _, _, rfl, rfl, .inr (by omega), _, _, rfl, rfl, _, _, rfl, rfl, ?_⟩⟩
    refine ⟨_, rfl, _, rfl, .inl ⟨_, rfl, _, _, rfl, rfl, (by decide : (0 : Int) < 2305843009213693921), ?_⟩⟩
    refine ⟨by show 3 ≤ sizeLine; decide, fun g ng => hQ g _ (same_upd ng) ng ⟨_, _, _, upd_same, ?_, Int.emod_nonneg _ (by decide), Int.lt_trans (Int.emod_lt_of_pos _ (by decide)) (by decide), Int.le_refl _, Int.le_refl _⟩⟩
    refine Int.mul_nonneg (Int.emod_nonneg _ (Int.ne_of_gt pow_pos)) ?_
    exact (bit01 _).2
  · rw [decide_eq_false hn]
    refine ifN rfl ?_
    refine ⟨_, rfl, _, _, rfl, rfl, .inl (by decide), _, _, rfl, rfl, ?_⟩
    show gName 2 (V.int (43 * n + 19)) _ _ _
    generalize 43 * n + 19 = x
    refine ⟨_, rfl, _, rfl, .inl ⟨_, rfl, _, _, rfl, rfl, ⟨by decide, by decide, by decide⟩, _, _, rfl, rfl, ⟨by decide, pow_room⟩, _, _, rfl, rfl, pow_pos, _, rfl, _, rfl, _, _, rfl, rfl, ⟨by decide, by decide, by decide⟩, _, _, rfl, rfl, .inr ⟨_, rfl, _, _, rfl, rfl, .inr ?_, ?_⟩⟩⟩
    · exact (bit01 _).1
    refine ⟨_, rfl, .inl ⟨_, rfl, _, _, rfl, rfl, (by decide : (0 : Int) < 2305843009213693951), _, _, rfl, rfl, .inr (by decide), _, rfl, _, _, rfl, rfl, .inl (by decide), _, rfl, _, _, rfl, rfl, .inr (by omega), _, _, rfl, rfl, _, _, rfl, rfl, ?_⟩⟩
    refine ⟨_, rfl, _, rfl, .inl ⟨_, rfl, _, _, rfl, rfl, (by decide : (0 : Int) < 2305843009213693921), ?_⟩⟩
    refine ⟨by show 3 ≤ sizeLine; decide, fun g ng => hQ g _ (same_upd ng) ng ⟨_, _, _, upd_same, ?_, Int.emod_nonneg _ (by decide), Int.lt_trans (Int.emod_lt_of_pos _ (by decide)) (by decide), Int.le_refl _, Int.le_refl _⟩⟩
    refine Int.mul_nonneg (Int.emod_nonneg _ (Int.ne_of_gt pow_pos)) ?_
    exact (bit01 _).2
abbrev n__law_far : List Str := ["_law_pot_here", "_law_upto", "_law_found_here", "_law_lap"]
abbrev pr__law_far : List Str := ["_law_pot_here", "_law_upto"]
theorem sc__law_far : FnScope n__law_far pr__law_far (defScope s__law_far) := ⟨rfl, rfl, rfl, by decide +kernel, rfl, by decide +kernel, by decide +kernel⟩

def spFar : Sp := fun vs H Q _ => ∃ g u k, vs = [V.ref g, V.int u] ∧ PotAt H g k ∧ k ≤ 90000 ∧ 1 ≤ u ∧ ∀ r H', 0 ≤ r → r < u → Sb g H H' → PotAt H' g (k + 5) → Q (V.int r) H'
theorem ok__law_far (c : Env K mg) : Pm P w K mg base 2 (d__law_far.at_ K) spFar := by
  obtain ⟨fd, F⟩ := fd__law_far c
  refine .mk0 (F.ok sc__law_far (ps := pr__law_far) (by intro vs H Q E h; obtain ⟨_, _, _, rfl, _⟩ := h; rfl) fun cdv A0 outer s0 H vs Q E hr h => ?_) (FunD.bindsN F fun _ _ _ _ _ _ us hl => match us, hl with | [_, _], _ => rfl) F.kp
  obtain ⟨g, u, k, rfl, hg, hk, u1, hQ⟩ := h
  refine ⟨_, (PSs.nox (pss_cons (ps_set (i := 2) sc__law_far.nd rfl (Or.inl rfl) (pe_callF (ok__law_take c) (hr.mono (by decide)) rfl (g__law_take c) (pa_cons (pv 0) (pa_cons (pe_op op_pow pe_int pe_int) pa_nil))))
    (pss_cons (ps_for PassesOwn.never rfl (pi_range1 rfl (f_range c) (pa_cons pe_int pa_nil)) (pg_name (i := 3) sc__law_far.nd rfl (Or.inl rfl))
    (pss_one (ps_set (i := 2) sc__law_far.nd rfl (Or.inl rfl) (pe_op op_add (pe_op op_mul (pv 2) (pe_op op_pow pe_int pe_int)) (pe_callF (ok__law_take c) (hr.mono (by decide)) rfl (g__law_take c) (pa_cons (pv 0) (pa_cons (pe_op op_pow pe_int pe_int) pa_nil)))))))
    (pss_one (ps_ret (pe_op op_mod (pe_callTy call_int1 (by rfl) (f_int c) (by decide +kernel) (pa_cons (pv 2) pa_nil)) (pv 1))))))), ?_⟩
  refine ⟨_, rfl, _, _, rfl, rfl, ⟨by decide, by decide, by decide⟩, g, _, k, rfl, hg, by omega, by decide, by decide, fun r H1 r0 r1 s1 g1 => ?_⟩
  refine ⟨_, rfl, by omega, by omega, ?_⟩
  refine for_it walk_range (fun i σ H' => ∃ (f : Int) (z : Option V), σ = [some (.ref g), some (.int u), some (.int f), z] ∧ Sb g H H' ∧ PotAt H' g (k + 1 + i)) ⟨r, _, rfl, s1, g1.le (by omega)⟩ (fun _ _ _ _ _ => trivial) (fun i x σ H' H2 hi q hy => ?_) (fun σ H' q => ?_)
  · obtain ⟨f, z, rfl, s2, g2⟩ := q
    obtain ⟨rfl, rfl⟩ := hy
    have hi : i < 4 := hi
    refine ⟨_, rfl, _, _, rfl, rfl, ⟨by decide, by decide, by decide⟩, _, _, rfl, rfl, .inr (by decide), _, rfl, _, _, rfl, rfl, ⟨by decide, by decide, by decide⟩, g, _, _, rfl, g2, by omega, by decide, by decide, fun r2 H3 r0 r1 s3 g3 => ?_⟩
    exact ⟨_, _, rfl, rfl, _, _, rfl, s2.trans s3, g3.le (by omega)⟩
  · obtain ⟨f, z, rfl, s2, g2⟩ := q
    exact ⟨_, rfl, .inl ⟨_, rfl, _, rfl, _, _, rfl, rfl, (show 0 < u by omega), hQ _ _ (Int.emod_nonneg _ (by omega)) (Int.emod_lt_of_pos _ (by omega)) s2 (g2.le (by show k + 1 + ((4 : Nat) : Int) ≤ k + 5; omega))⟩⟩
abbrev n__law_of : List Str := ["_law_pot_here", "_law_some"]
abbrev pr__law_of : List Str := ["_law_pot_here", "_law_some"]
theorem sc__law_of : FnScope n__law_of pr__law_of (defScope s__law_of) := ⟨rfl, rfl, rfl, by decide +kernel, rfl, by decide +kernel, by decide +kernel⟩

def spOf (K : Fg) : Sp := fun vs H Q _ => ∃ (g a : Addr) (ns : List Int) (k : Int), vs = [V.ref g, V.ref a] ∧ PotAt H g k ∧ k ≤ 90000 ∧ SqL K H a (ns.map V.int) ∧ a ≠ g ∧ 1 ≤ ns.length ∧ ns.length ≤ 100 ∧ ∀ r H', r ∈ ns → Sb g H H' → PotAt H' g (k + 1) → Q (V.int r) H'
theorem ok__law_of (c : Env K mg) : Pm P w K mg base 2 (d__law_of.at_ K) (spOf K) := by
  obtain ⟨fd, F⟩ := fd__law_of c
  refine .mk0 (F.ok sc__law_of (ps := pr__law_of) (by intro vs H Q E h; obtain ⟨_, _, _, _, rfl, _⟩ := h; rfl) fun cdv A0 outer s0 H vs Q E hr h => ?_) (FunD.bindsN F fun _ _ _ _ _ _ us hl => match us, hl with | [_, _], _ => rfl) F.kp
  obtain ⟨g, a, ns, k, rfl, hg, hk, ha, ne, l1, l2, hQ⟩ := h
  refine ⟨_, (PSs.nox (pss_one (ps_ret (pe_ix ix_list (pv 1) (pe_callF (ok__law_take c) (hr.mono (by decide)) rfl (g__law_take c) (pa_cons (pv 0) (pa_cons (pe_callB call_len_seq (by rfl) (f_len c) (by decide +kernel) (pa_cons (pv 1) pa_nil)) pa_nil))) (fun _ _ => rfl))))), ?_⟩
  have hlen : (ns.map V.int).length = ns.length := List.length_map _
  refine ⟨_, rfl, _, rfl, _, rfl, a, _, rfl, .inl ha, ?_⟩
  rw [hlen]
  refine ⟨g, _, k, rfl, hg, by omega, by omega, ?_, fun r H1 r0 r1 s1 g1 => ?_⟩
  · exact Nat.lt_of_le_of_lt (show ((ns.length : Nat) : Int).natAbs ≤ 100 by omega) (Nat.lt_of_lt_of_le (show 100 < 2 ^ 7 by decide) (Nat.pow_le_pow_right (by decide) (by decide)))
  obtain ⟨j, rfl⟩ : ∃ j : Nat, r = j := ⟨r.toNat, by omega⟩
  have hj : j < ns.length := by omega
  refine ⟨a, _, _, _, rfl, rfl, sq_sb ha ne s1, atI_nat (xs := ns.map V.int) (j := j) (by rw [List.getElem?_map, List.getElem?_eq_getElem hj]; rfl), ?_⟩
  exact hQ _ _ (List.getElem_mem hj) s1 g1
abbrev n__law_amount : List Str := ["_law_pot_here"]
abbrev pr__law_amount : List Str := ["_law_pot_here"]
theorem sc__law_amount : FnScope n__law_amount pr__law_amount (defScope s__law_amount) := ⟨rfl, rfl, rfl, by decide +kernel, rfl, by decide +kernel, by decide +kernel⟩

def spAmount (K : Fg) : Sp := fun vs H Q _ => ∃ g k, vs = [V.ref g] ∧ PotAt H g k ∧ k ≤ 80000 ∧ ∀ r H', r.natAbs ≤ 10 ^ 20 → Sb g H H' → PotAt H' g (k + 2) → Q (V.int r) H'
theorem ok__law_amount (c : Env K mg) : Pm P w K mg base 3 (d__law_amount.at_ K) (spAmount K) := by
  obtain ⟨fd, F⟩ := fd__law_amount c
  refine .mk0 (F.ok sc__law_amount (ps := pr__law_amount) (by intro vs H Q E h; obtain ⟨_, _, rfl, _⟩ := h; rfl) fun cdv A0 outer s0 H vs Q E hr h => ?_) (FunD.bindsN F fun _ _ _ _ _ _ us hl => match us, hl with | [_], _ => rfl) F.kp
  obtain ⟨g, k, rfl, hg, hk, hQ⟩ := h
  refine ⟨_, (PSs.nox (pss_one (ps_ret (pe_callF (ok__law_of c) (hr.mono (by decide)) rfl (g__law_of c) (pa_cons (pv 0) (pa_cons (pe_lst (pa_cons pe_int (pa_cons pe_int (pa_cons pe_int (pa_cons (pe_un un_neg pe_int) (pa_cons pe_int (pa_cons pe_int (pa_cons (pe_un un_neg pe_int) (pa_cons pe_int (pa_cons (pe_op op_sub (pe_callF (ok__law_take c) (hr.mono (by decide)) rfl (g__law_take c) (pa_cons (pv 0) (pa_cons pe_int pa_nil))) pe_int) (pa_cons (pe_op op_pow pe_int pe_int) pa_nil))))))))))) pa_nil)))))), ?_⟩
  refine ⟨_, rfl, _, rfl, _, rfl, _, rfl, g, _, k, rfl, hg, by omega, by decide, by decide, fun r H1 r0 r1 s1 g1 => ?_⟩
  refine ⟨_, _, rfl, rfl, _, _, rfl, rfl, ⟨by decide, by decide, by decide⟩, by show 10 ≤ sizeLine; decide, fun p np => ?_⟩
  have gp : PotAt (upd H1 p (.lst ([0, 0, 1, -1, 2, 3, -4, 7, r - 20, 10 ^ Int.toNat 20].map V.int))) g (k + 1) := g1.mono (same_upd np)
  have ne : p ≠ g := by
    obtain ⟨a, b, c, h, _⟩ := g1
    intro e
    rw [e, h] at np
    cases np
  refine ⟨g, p, [0, 0, 1, -1, 2, 3, -4, 7, r - 20, 10 ^ Int.toNat 20], _, rfl, gp, by omega, .of upd_same, ne, (show 1 ≤ 10 by decide), (show 10 ≤ 100 by decide), fun x H2 hx s2 g2 => hQ x H2 ?_ (s1.trans (Sb.trans (Sb.of (same_upd np)) s2)) (g2.le (by omega))⟩
  simp only [List.mem_cons, List.not_mem_nil, or_false] at hx
  rcases hx with rfl | rfl | rfl | rfl | rfl | rfl | rfl | rfl | rfl | rfl
  all_goals first
    | omega
    | decide
end
end TT

-- R9
set_option Elab.async false
set_option linter.all false
set_option maxRecDepth 100000
set_option maxHeartbeats 4000000
/-! set(a list of ints), with its table known to rise -/
namespace TS1
open PySem PySem.Spec PyProof.Rows L2
section
variable {prog : Program} {w : World} {A : Around} {E : Value → Shared → Prop} {s : Shared}
theorem new_led (a : Value) {Q₁ : Value → Shared → Prop}
    (h : Q₁ (.ref s.heap.objs.size) { s with heap := s.heap.push { cls := .type "set", dict := none, data := .set #[] 0 (.fresh 0 0 (!w.params.followText "set-order")) } }) :
    codeAny (model prog w) A (.call (.builtin "set.__new__") ⟨[.type "set", a], []⟩) (wants Q₁ E) s := by
  refine codeAny_of_tree ?_
  show wpAny _ A.in1 (do checkBuiltinCall "set.__new__" ⟨[.type "set", a], []⟩; again (.builtin "set.__new__" ⟨[.type "set", a], []⟩)) _ _ s
  refine wpAny_bind (wpAny_of_eq (F.newCall_set_1 a) (wpAny_pure ⟨plainId_quiet F.plain_set_new _, codeAny_builtin F.entry_set_new ?_⟩))
  rw [Around.under_plainId F.plain_set_new _]
  unfold Builtin.«set.__new__» Builtin.Frozenset.newClass
  have hsub := sub_set_self
  obtain ⟨hp, g, d, tk, os⟩ := s
  dsimp only
  wp_walk
  refine wpAny_askSetting (wpAny_pure ?_)
  dsimp only
  simp only [newObj]
  refine wpAny_bind (wpAny_alloc (wpAny_pure ?_))
  exact wpAny_pure h
end
theorem ints_at : ∀ {us : List Value} {ns : List Int}, IntsAre us ns → ∀ (i : Nat) (v : Value), us[i]? = some v → ∃ t, v = .int (ns.getD i 0) t
  | _, _, .nil, i, v, h => by simp at h
  | _, _, .cons n t hr, 0, v, h => by simp at h; exact ⟨t, by rw [← h] <;> rfl⟩
  | _, _, .cons n t hr, i + 1, v, h => by
    simp only [List.getElem?_cons_succ] at h
    obtain ⟨t', e⟩ := ints_at hr i v h
    exact ⟨t', by rw [e] <;> rfl⟩
section
variable {prog : Program} {w : World} {A : Around} {R : Result → Shared → Prop} {I : Addr} {fp wr : List Addr} {G : Array GenState → Array GenState → Prop} {n : Nat} {P : Nat → Value → Prop} {St : Nat → Shared → Prop}
def Sof (ns : List Int) (i : Nat) : Int → Bool := fun k => (ns.take i).any (· == k)
theorem loopI (W : WalksS prog w A.in1 I fp wr G n P St) (S : Addr) (hSf : S ∉ fp) (ns : List Int) (hsz : ns.length = n) (hn1 : n < 1000)
    (hval : ∀ i v, P i v → ∃ t, v = .int (ns.getD i 0) t) :
    ∀ (k i : Nat) (s : Shared), n - i = k → i ≤ n → St i s → (∃ m, m ≤ i ∧ SetR w s.heap S (Sof ns i) m) →
      (∀ s' m, Moved (S :: wr) G s s' → m ≤ n → SetR w s'.heap S (Sof ns n) m → R (.ok (.ret .none)) s') →
      codeAny (model prog w) A (.builtin "set.update.loop" ⟨[.ref S, .ref I], []⟩) R s := by
  have hSw : S ∉ wr := fun h => hSf (W.sub _ h)
  have hsub : ∀ b ∈ wr, b ∈ S :: wr := fun b hb => List.mem_cons_of_mem _ hb
  intro k
  induction k with
  | zero =>
    intro i s hk hi hst ⟨m, hm, hS⟩ hR
    have hin : i = n := by omega
    subst hin
    refine codeAny_builtin PyProof.Rows.F.entry_set_update_loop ?_
    rw [Around.under_plainId PyProof.Rows.F.plain_set_update_loop _]
    show wpAny _ A.in1 (pyNext (.ref I) >>= _) _ _ s
    refine wpAny_bind (W.done s _ _ hst fun s' hm' => ?_)
    show wpAny _ A.in1 (ret Value.none) _ _ s'
    exact wpAny_pure (hR s' m (hm'.mono hsub) hm (hS.at fun o ho => hm'.heap S _ hSw ho))
  | succ k ih =>
    intro i s hk hi hst ⟨m, hm, hS⟩ hR
    have hlt : i < n := by omega
    refine codeAny_builtin PyProof.Rows.F.entry_set_update_loop ?_
    rw [Around.under_plainId PyProof.Rows.F.plain_set_update_loop _]
    show wpAny _ A.in1 (pyNext (.ref I) >>= _) _ _ s
    refine wpAny_bind (W.item i s _ _ hlt hst fun v s' hP hst' hm' => ?_)
    obtain ⟨t, rfl⟩ := hval i v hP
    have hS' := hS.at fun o ho => hm'.heap S _ hSw ho
    show wpAny _ A.in1 (holding [Value.int (ns.getD i 0) t] (setAdd S (.int (ns.getD i 0) t)) >>= _) _ _ s'
    refine wpAny_bind (wpAny_holding ?_)
    unfold setAdd
    refine wpAny_holding ?_
    refine wpAny_bind ((intKind prog w).pyHash (k := ns.getD i 0) (intKind_is _ _ _ _) ?_)
    refine setR_add_hashed (s := { s' with toks := s'.toks + 1 }) hS' (by unfold scanBound; omega) fun h' hsb hS2 => ?_
    have hSi : ∃ m2, m2 ≤ i + 1 ∧ SetR w h' S (Sof ns (i + 1)) m2 := by
      refine ⟨_, ?_, SetR.congr hS2 fun k' => ?_⟩
      · split <;> omega
      · unfold Sof
        have e : ns[i]? = some (ns.getD i 0) := by
          rw [List.getD_eq_getElem?_getD, List.getElem?_eq_getElem (by omega)]
          rfl
        rw [List.take_add_one, e, List.any_append]
        congr 1
        show ([ns.getD i 0].any fun x => x == k') = decide (k' = ns.getD i 0)
        by_cases e2 : k' = ns.getD i 0
        · rw [decide_eq_true e2, e2]; simp
        · rw [decide_eq_false e2]
          have : (ns.getD i 0 == k') = false := beq_eq_false_iff_ne.mpr fun q => e2 q.symm
          simp only [List.any_cons, List.any_nil, Bool.or_false]
          exact this
    refine wpAny_pure ⟨plainId_quiet PyProof.Rows.F.plain_set_update_loop _, ih (i + 1) _ (by omega) hlt (W.frame _ s' _ _ hst' (Nat.le_succ _) fun b hb o e => ?_) hSi fun s'' m2 hm'' hle hS'' => ?_⟩
    · rw [hsb.2 b (fun h : b = S => hSf (by rw [← h]; exact hb))]; exact e
    · refine hR s'' m2 (Moved.trans W.gtrans ((hm'.mono hsub).then_heap (Nat.le_succ _) fun b o hb e => ?_) hm'') hle hS''
      rw [hsb.2 b (fun h : b = S => hb (by rw [h]; exact List.mem_cons_self))]; exact e
end
section
variable {prog : Program} {w : World} {A : Around} {E : Value → Shared → Prop} {s : Shared}
theorem call_setI {l : Addr} {items : Array Value} {ns : List Int} {Q : Value → Shared → Prop}
    (hh : A.handled = none) (hl : s.heap.IsList l items) (hi : IntsAre items.toList ns) (hn1 : ns.length < 1000)
    (h : ∀ (h' : Heap) (tk : Nat) (m : Nat), m ≤ ns.length → SetR w h' s.heap.objs.size (fun k => ns.any (· == k)) m →
      (∀ b o, b < s.heap.objs.size → s.heap.get? b = some o → h'.get? b = some o) → Q (.ref s.heap.objs.size) { s with heap := h', toks := tk }) :
    wpAny (model prog w) A (call (.type "set") [.ref l]) Q E s := by
  obtain ⟨c, tl, hmro⟩ := PySem.F.called_set.mro
  have hmade := PySem.F.called_set.made
  have hsub := PySem.F.called_set.sub
  refine wpAny_call (codeAny_of_tree ?_)
  show wpAny _ _ (callAny (.type "set") _) _ _ _
  refine wpAny_pure ⟨Code.quiet_builtin _ (by decide +kernel), codeAny_builtin PySem.F.entry_type_call ?_⟩
  rw [Around.under_plain (weight_type_call_type "set" [.ref l] []) rfl]
  have h1 := PySem.F.called_set.notType
  have h2 := PySem.F.called_set.canCreate
  have hct := PySem.F.typeCall_set_1 (.ref l)
  repeat (any_goals (first | assumption | wp_step))
  have hlen : items.size = ns.length := by
    have := hi.length
    rw [Array.length_toList] at this
    exact this
  refine codeAny_mono (new_led (w := w) (.ref l) (E := E) (Q₁ := fun obj s₁ => obj = .ref s.heap.objs.size ∧ s₁ = { s with heap := s.heap.push { cls := .type "set", dict := none, data := .set #[] 0 (.fresh 0 0 (!w.params.followText "set-order")) } }) ⟨rfl, rfl⟩) fun r s₁ hr => ?_
  cases r with
  | error e => exact hr
  | ok fl =>
    cases fl with
    | ret obj =>
      obtain ⟨rfl, rfl⟩ := hr
      have hS : (s.heap.push { cls := .type "set", dict := none, data := .set #[] 0 (.fresh 0 0 (!w.params.followText "set-order")) }).get? s.heap.objs.size = some { cls := .type "set", dict := none, data := .set #[] 0 (.fresh 0 0 (!w.params.followText "set-order")) } := Heap.get?_push_size _ rfl
      have hT : Shared.TypeIs { s with heap := s.heap.push { cls := .type "set", dict := none, data := .set #[] 0 (.fresh 0 0 (!w.params.followText "set-order")) } } (.ref s.heap.objs.size) "set" := ⟨_, hS, rfl⟩
      have R0 : SetR w (s.heap.push { cls := .type "set", dict := none, data := .set #[] 0 (.fresh 0 0 (!w.params.followText "set-order")) }) s.heap.objs.size (fun _ => false) 0 := setR_fresh w
      have hli := PySem.F.called_set.init.lookup
      have hbi := PySem.F.called_set.init.bind (.ref s.heap.objs.size)
      generalize (!w.params.followText "set-order") = led at *
      repeat (any_goals (first | assumption | wp_step))
      refine codeAny_mono (codeAny_call_builtin (R := wants (fun r s₂ => r = .none ∧ ∃ h' tk m, s₂ = { s with heap := h', toks := tk } ∧ m ≤ ns.length ∧
          SetR w h' s.heap.objs.size (fun k => ns.any (· == k)) m ∧
          (∀ b o, b < s.heap.objs.size → s.heap.get? b = some o → h'.get? b = some o)) E) PySem.F.called_set.init.plain PySem.F.entry_set_init (check_set_init_1 hT ?_)) fun r₂ s₂ hr₂ => ?_
      · obtain ⟨ol, hol, hcl, nl, hdl⟩ := hl
        obtain ⟨ocls, odict, odata, oslots⟩ := ol
        simp only at hcl hdl
        subst hcl; subst hdl
        have hol' : (s.heap.push { cls := .type "set", dict := none, data := .set #[] 0 (.fresh 0 0 led) }).get? l = some { cls := .type "list", dict := odict, data := .seq items nl, slots := oslots } := Heap.get?_push_of_some _ hol
        have hsls := PySem.F.sub_list_set
        have hslf := PySem.F.sub_list_frozenset
        have hne : (Value.type "list" == Value.type "dict") = false := by decide
        have hl1 : (s.heap.push { cls := .type "set", dict := none, data := .set #[] 0 (.fresh 0 0 led) }).IsList l items := ⟨_, hol', rfl, nl, rfl⟩
        unfold Builtin.«set.__init__» noKeywords Builtin.Frozenset.updateFrom
        generalize hPI : pyIter = PI
        wp_walk
        subst hPI
        refine wpAny_pyIter_list hl1 ?_
        refine wpAny_bind (wpAny_runValue ?_)
        have hlS : l < s.heap.objs.size := Heap.lt_size hol
        have hh3 : A.in1.in1.in1.handled = none := by simp [hh]
        have hneI : l ≠ (s.heap.push { cls := .type "set", dict := none, data := .set #[] 0 (.fresh 0 0 led) }).objs.size := by
          rw [Heap.size_push]; exact Nat.ne_of_lt (Nat.lt_succ_of_lt hlS)
        have hSf : s.heap.objs.size ∉ [(s.heap.push { cls := .type "set", dict := none, data := .set #[] 0 (.fresh 0 0 led) }).objs.size, l] := by
          rw [Heap.size_push]; simp only [List.mem_cons, List.mem_singleton, List.not_mem_nil, or_false, not_or]
          exact ⟨Nat.ne_of_lt (Nat.lt_succ_self _), Nat.ne_of_gt hlS⟩
        have hval : ∀ (i : Nat) (v : Value), items[i]? = some v → ∃ t, v = .int (ns.getD i 0) t := fun i v hv => ints_at hi i v (by rw [Array.getElem?_toList]; exact hv)
        refine loopI ((Walks.list hh3 _ l hneI items).toS) s.heap.objs.size
          hSf ns hlen.symm (by omega) hval (items.size - 0) 0 _ (by omega) (Nat.zero_le _)
          ⟨⟨_, Heap.get?_push_size _ rfl, rfl, rfl⟩, (hl1.push _)⟩ ?hS0 ?hR
        case hS0 => exact ⟨0, Nat.le_refl _, SetR.congr (R0.at fun o ho => Heap.get?_push_of_some _ ho) fun _ => rfl⟩
        case hR =>
          intro s' m hm hle hS'
          obtain ⟨h', g', d', tk', os'⟩ := s'
          have eg : g' = s.gens := hm.gens
          have ed : d' = s.drawn := hm.drawn
          have eo : os' = s.os := hm.os
          subst eg; subst ed; subst eo
          show wpAny _ _ _ _ _ _
          refine wpAny_pure ?_
          show wpAny _ _ (ret Value.none) _ _ _
          refine wpAny_pure ⟨rfl, h', tk', m, rfl, by omega, SetR.congr hS' fun k' => ?_, fun b o hb e => ?_⟩
          · show ns.any _ = (ns.take items.size).any _
            rw [hlen, List.take_length]
          have hb1 : b ≠ s.heap.objs.size := Nat.ne_of_lt hb
          have hb2 : b ≠ (s.heap.push { cls := .type "set", dict := none, data := .set #[] 0 (.fresh 0 0 led) }).objs.size := by
            rw [Heap.size_push]; exact Nat.ne_of_lt (Nat.lt_succ_of_lt hb)
          exact hm.heap b o (by simp only [List.mem_cons, List.mem_singleton, List.not_mem_nil, or_false, not_or]; exact ⟨hb1, hb2⟩) (Heap.get?_push_of_some _ (Heap.get?_push_of_some _ e))
      · cases r₂ with
        | error e => exact hr₂
        | ok fl₂ =>
          cases fl₂ with
          | ret r =>
            obtain ⟨rfl, h', tk, m, rfl, hle, hS', hk'⟩ := hr₂
            repeat (any_goals (first | assumption | wp_step))
            exact h _ _ _ hle hS' hk'
          | _ => exact hr₂.elim
    | _ => exact hr.elim
end
end TS1
namespace L2
open PySem PySem.Spec PyProof.Rows
section
variable {X : Cx}
/-- set(a list of ints) -/
def rSetI (K : PySem.W.Frag) (w : World) : List V → Hp → VK → Prop := fun xs H Q => ∃ (a : Addr) (ns : List Int), xs = [V.ref a] ∧ SqL K H a (ns.map V.int) ∧ ns.length < 1000 ∧ ∀ p m, H p = none → m ≤ ns.length → Q (.ref p) (upd H p (SetO w p (fun k => ns.any (· == k)) m))
theorem cr_setI (hc : X.calm = true) : CallR X (.type "set") (rSetI X.K X.w) := by
  intro pins s σ H xs us Q I r h
  obtain ⟨a, ns, rfl, hq, hn, q⟩ := h
  obtain ⟨its, rv, pl, hz⟩ := I.list hq
  rw [Vals.ref1 r]
  refine TS1.call_setI (w := X.w) (I.ok.hd hc) pl.isList (ns := ns) (by simpa using rv.ints) hn fun h' tk m hm hS hk => ?_
  exact ⟨.ref _, upd H s.heap.objs.size (SetO X.w s.heap.objs.size (fun k => ns.any (· == k)) m), I.laid (t' := tk) (fun b u e => hk b u (Heap.lt_size e) e) (Nat.le_refl _) (setO_new hS), rfl, q _ m (I.hok.fresh (Nat.le_refl _)) hm⟩
end
end L2

-- RG
set_option Elab.async false
set_option linter.all false
set_option maxRecDepth 100000
set_option maxHeartbeats 4000000
/-! promises of defs that ask that nothing be under way (repr); len(a set); the law's end over such a promise -/
namespace TT
open PySem PySem.Spec PyProof.Rows L2
def NoG (A : Around) : Prop := A.guards = some []
def FnRG (P : Program) (w : World) (K : Fg) (mg : Str → Option Value) (base : Heap) (k : Nat) (f : Addr) (sp : Sp) : Prop :=
  ∀ (A : Around) (outer : List PySem.Env) (s : Shared) (H : Hp) (us : List Value) (vs : List V) (Q : VK) (E : XK), NoG A → Room k A → Env0 P w K mg base A outer s H → Vals vs us → sp vs H Q E →
    codeAny (model P w) A (.call (.ref f) ⟨us, []⟩) (CR CX0 outer P w H s Q E) s
structure PmG (P : Program) (w : World) (K : Fg) (mg : Str → Option Value) (base : Heap) (k : Nat) (a : Addr) (sp : Sp) : Prop where
  run : FnRG P w K mg base k a sp
  kp : PySem.W.keepIn K (.ref a) = true
section
variable {P : Program} {w : World} {K : Fg} {mg : Str → Option Value} {base : Heap} {x qual : Str} {params : Arguments} {body : List Stmt} {scope : Scope} {dvs : List V} {kws : List (Str × V)} {f : Addr} {fd : FuncData}
theorem okG {N ps : List Str} {k : Nat} {sp : Sp} (F : FunD K x qual params body scope dvs kws f fd) (S : FnScope N ps scope) (len : ∀ vs H Q E, sp vs H Q E → vs.length = ps.length)
    (hbody : ∀ (cdv : Value) (A : Around) (outer : List PySem.Env) (s : Shared) (H : Hp) (vs : List V) (Q : VK) (E : XK), NoG (A.deeper (envOfC qual scope s.heap.objs.size f cdv)) → Room k (A.deeper (envOfC qual scope s.heap.objs.size f cdv)) → sp vs H Q E →
      ∃ t, PSs (cxOf CX0 P w K mg base N qual scope f cdv A outer s H E) body t ∧ t { nx := fun _ H' => Q .non H', rt := Q } (start N vs) H) (hb : Binds K fd ps []) : PmG P w K mg base (k + 1) f sp := by
  refine ⟨?_, F.kp⟩
  obtain ⟨oc, od, dV, kV, doc, pm, an, cdv, ct, osl, rfl, lk, hcd, _, _⟩ := F.ex
  intro A outer s H us vs Q E hG hr e0 r hsp
  have hl := len _ _ _ _ hsp
  have KX : K.In s.heap := e0.mod.kin.keeps fun b o e => (e0.bs b o e).1
  have lim : s.heap.NoLimit := e0.mod.nolimit.keeps fun b o e => (e0.bs b o e).1
  have hlu : us.length = ps.length := by rw [← r.length]; exact hl
  have hkind : ∀ y ∈ ps.zip us, scope.names.lookup y.1 = some .local ∨ (scope.names.lookup y.1 = some .cell ∧ ((cellsFrom (s.heap.objs.size + 1) scope.names []).lookup y.1).isSome = true) := fun ⟨n, v⟩ hy => by
    rcases S.par n (List.of_mem_zip hy).1 with q | q
    · exact .inl q
    · exact .inr ⟨q, PySem.W.cellsFrom_some _ _ _ (.inl q)⟩
  have hb0 := hb s us KX (by rw [List.append_nil]; exact hlu)
  rw [List.append_nil] at hb0
  refine codeAny_call_function hr.depth (KX _ _ lk) rfl S.co S.gen rfl (PySem.W.codeRec_of KX hcd) (hb0 _ _ _ _ ?_)
  refine wpAny_newFunctionEnv_cells S.kind hkind fun env he s1 x => ?_
  subst he
  refine ⟨lim.keeps x.toInCall.keep, codeAny_func ?_⟩
  obtain ⟨t, ht, hq⟩ := hbody cdv A outer s H vs Q E hG (hr.deeper _) hsp
  have I : Inv (cxOf CX0 P w K mg base N qual scope f cdv A outer s H E) [] (start N vs) H s1 := inv_start S hr.hd e0 hl r x
  refine wpAny_mono (ht.run [] s1 (start N vs) H _ I hq) (fun fl s' hs => ?_) fun e s' hs => hs
  have fin : ∀ {σ' : L2.St} {H' : Hp} {v : V} {u : Value}, Inv (cxOf CX0 P w K mg base N qual scope f cdv A outer s H E) [] σ' H' s' → RelV v u → Q v H' → CE outer P w H s Q u s' :=
    fun {σ' H' v u} J rv q => ⟨v, H', J.os, J.bare, J.base, J.hok, rv, q⟩
  cases fl with
  | ret u =>
    obtain ⟨v, σ', H', J, rv, q⟩ := hs
    exact fin J rv q
  | next =>
    obtain ⟨σ', H', J, q⟩ := hs
    exact fin (v := V.non) (u := Value.none) J rfl q
  | brk =>
    obtain ⟨_, _, _, q⟩ := hs
    exact False.elim q
  | cont =>
    obtain ⟨_, _, _, q⟩ := hs
    exact False.elim q
end
section
variable {X : Cx} {k : Nat} {f : Addr} {sp : Sp} {x : Str} {e : Expr} {es : List Expr} {t : TA} {p pos : Pos}
theorem pe_callG (F : PmG X.prog X.w X.K X.mg X.base k f sp) (hG : NoG X.A) (hr : Room k X.A) (hg : Gl X x) (hm : X.mg x = some (.ref f)) (ha : PA X (e :: es) t)
    (hdb : (x == ("__debug__" : Str)) = false := by decide) (he : starEach (e :: es) X.env = (false, eval e X.env) :: starEach es X.env := by rfl) (hpl : (backTo pos (starEach es X.env)).any (·.1) = false := by rfl) :
    PE X (.Call (.Name x p) (e :: es) [] pos) (tCF sp t) := by
  refine ⟨fun pins s σ H Q I h => wpAny_Call_Name_kw (ld_glob I hg hm ?_ hdb)⟩
  have z := thn (ha.run pos pins s σ H _ I h) (Q' := fun us s1 => X.K.In s1.heap ∧ wpAny (model X.prog X.w) X.A (call (.ref f) us) (EP X pins σ Q) X.xe s1)
    fun us s1 ⟨vs, H1, I1, r, q⟩ => ⟨I1.kIn, wpAny_call (codeAny_mono (F.run X.A X.stack s1 H1 us vs Q E0 hG hr I1.env0 r q) fun r s' hq => by
      cases r with
      | error e => exact pass0 pins σ H1 s1 e s' I1 hq
      | ok fl =>
        cases fl with
        | ret u => exact I1.after hq
        | next => exact False.elim hq
        | brk => exact False.elim hq
        | cont => exact False.elim hq)⟩
  exact PySem.W.callWith_K (h₀ := X.base) I.ok.mod.kin F.kp z he hpl
/-- repr(a tuple ..): its text -/
def rRepr (K : Fg) : List V → Hp → VK → Prop := fun xs H Q => ∃ (a : Addr) (d : PyData), xs = [V.ref a] ∧ Dp K H (.ref a) d ∧ d.showable = true ∧ d.hasDict = false ∧ d.depth ≤ 50 ∧ d.shown.length ≤ sizeLine ∧ Q (.str d.shown) H
theorem cr_repr (hG : NoG X.A) (hu : X.A.units + 64 < cLine) : CallR X (.builtin "repr") (rRepr X.K) := by
  intro pins s σ H xs us Q I r h
  obtain ⟨a, d, rfl, hd, hs, hnd, hdp, hz, q⟩ := h
  rw [Vals.ref1 r]
  obtain ⟨as, rd⟩ := Dp.reads I d _ _ hd rfl
  refine repr_of_reads' rd hs (PyData.noDict_hsm hnd) hG (by omega) (fun _ _ e => e) (fun h' u tk hk => ?_) hz
  exact ⟨.str _, H, I.kept (t' := tk) hk, ⟨u, rfl⟩, q⟩
/-- len(a set of ints): the number of its members -/
def rLenSet (w : World) : List V → Hp → VK → Prop := fun xs H Q => ∃ (a : Addr) (S : Int → Bool) (n : Nat), xs = [V.ref a] ∧ H a = some (SetO w a S n) ∧ ∀ ks : List Int, ks.Nodup → ks.length = n → (∀ k, S k = true ↔ k ∈ ks) → Q (.int n) H
theorem cr_lenSet : CallR X (.builtin "len") (rLenSet X.w) := by
  intro pins s σ H xs us Q I r h
  obtain ⟨a, S, n, rfl, ha, q⟩ := h
  rw [Vals.ref1 r]
  obtain ⟨o, es, ep, t, ho, hex, hd, g, nd, hm, hb, hf, hn, hr, hl⟩ := setO_get I ha
  refine call_len_set ho hex hd hf (by unfold scanBound at hb; omega) ⟨.int n, H, I.tok _, ⟨_, by rw [hn]⟩, q (es.toList.map keyOf) nd (by rw [List.length_map, Array.length_toList]; exact hn) hm⟩
end
end TT
namespace TT
open PySem PySem.Spec PyProof.Rows L2
theorem law_callG {P : Program} {w : World} {K : Fg} {mg mb : Str → Option Value} {k : Nat} {fa a : Addr} {sp : Sp} {s₁ : Shared} {vs : List Value} {ns : List Int}
    (KX : K.In s₁.heap) (hns : s₁.heap.Ns mainGlobals mg) (hb : s₁.heap.Ns builtinsNs mb) (hbb : ∀ x : Str, x ≠ "__name__" → mb x = bootBuiltins x) (hlim : s₁.heap.NoLimit) (hg : s₁.gens = #[])
    (ha : s₁.heap.get? a = some { cls := .type "list", data := .seq vs.toArray }) (hi : IntsAre vs ns) (hl : ns.length ≤ sizeLine) (hr : Room k callerA)
    (F : ∀ base : Heap, K.In base → base.Ns mainGlobals mg → FnRG P w K mg base k fa sp)
    (hsp : ∀ H : Hp, Only H → SqL K H a (ns.map V.int) → sp [.ref a] H (fun v _ => v = .bl true) fun _ _ _ => False)
    (hCX : ∀ H e s', CX0 [] H s₁ (fun _ _ _ => False) e s' → False) :
    codeAny (model P w) callerA (.call (.ref fa) ⟨[.ref a], []⟩) (fun r s' => r = .ok (.ret (.bool true)) ∧ OldK s₁.heap s'.heap ∧ s'.os = s₁.os ∧ AllBare s'.gens) s₁ := by
  have rv := vals_ints hi
  have lenV := hi.length
  have core : ∀ H : Hp, Only H → SqL K H a (ns.map V.int) → HOk P w H s₁.heap → (∀ b, H b ≠ none → b = a) → (H a ≠ none → K.lookup a = none) →
      codeAny (model P w) callerA (.call (.ref fa) ⟨[.ref a], []⟩) (fun r s' => r = .ok (.ret (.bool true)) ∧ OldK s₁.heap s'.heap ∧ s'.os = s₁.os ∧ AllBare s'.gens) s₁ := by
    intro H hO hS hok hA hK
    have base_of : ∀ {b : Addr} {o : Obj}, s₁.heap.get? b = some o → H b = none → (hidT s₁.heap H).get? b = some o := fun e n => hidT_get e n
    have noA : ∀ {b : Addr} {o : Obj} {es : Array DictEntry} {ep : Nat}, s₁.heap.get? b = some o → o.data = .dict es ep → H b = none := fun {b o es ep} e d => by
      cases q : H b with
      | none => rfl
      | some u =>
        have e' : b = a := hA b (by rw [q]; simp)
        subst e'
        rw [ha] at e; cases e
        have d' : Data.seq vs.toArray _ = Data.dict es ep := d
        cases d'
    have nsK : ∀ {b : Addr} {m : Str → Option Value}, s₁.heap.Ns b m → (hidT s₁.heap H).Ns b m := fun {b m} ⟨o, es, ep, e, d, r⟩ => ⟨o, es, ep, base_of e (noA e d), d, r⟩
    have hKb : K.In (hidT s₁.heap H) := fun b o e => base_of (KX b o e) (by
      cases q : H b with
      | none => rfl
      | some u =>
        have e' : b = a := hA b (by rw [q]; simp)
        subst e'
        rw [hK (by rw [q]; simp)] at e; cases e)
    have hM : Mod K mg (hidT s₁.heap H) := ⟨hKb, nsK hns, ⟨mb, nsK hb, hbb⟩, let ⟨mc, h1, h2⟩ := hlim; ⟨mc, nsK h1, h2⟩⟩
    have e0 : Env0 P w K mg (hidT s₁.heap H) callerA [] s₁ H := ⟨rfl, hM, fun b o e => of_hidT e, Nat.le_of_eq (hidT_size _ _), trivial, fun b hb => absurd (show b ∈ ([] : List Addr) from hb) (by simp), hok, .of_eq hg⟩
    refine codeAny_mono (F _ hKb (nsK hns) callerA [] s₁ H [.ref a] [.ref a] _ _ rfl hr e0 (.cons rfl .nil) (hsp H hO hS)) fun r s' h => ?_
    cases r with
    | error e => exact (hCX H e s' h).elim
    | ok fl =>
      cases fl with
      | next => exact False.elim h
      | brk => exact False.elim h
      | cont => exact False.elim h
      | ret u =>
        obtain ⟨v, H', os, bare, un, hok', r', q⟩ := h
        have q' : v = .bl true := q
        subst q'
        obtain rfl : u = Value.bool true := r'
        refine ⟨rfl, OldK.of_keep fun b o e => ?_, os, bare⟩
        cases q : H b with
        | none => exact un.keep b o e q (by intro z; exact absurd (show b ∈ ([] : List Addr) from z) (by simp)) (by simp)
        | some u =>
          rcases hO b with z | ⟨ob, xs, z⟩
          · rw [q] at z; cases z
          · have z2 := un.frzs b ob _ z
            obtain ⟨e1, _⟩ := hok b _ z
            obtain ⟨e2, _⟩ := hok' b _ z2
            rw [e] at e1; cases e1
            exact e2
  cases hk : K.lookup a with
  | some o =>
    have e := KX a o hk
    rw [ha] at e
    cases e
    refine core (fun _ => none) (fun _ => .inl rfl) (.inr ⟨_, vs.toArray, _, hk, rfl, rfl, rfl, by rw [List.size_toArray, lenV]; exact hl, by simpa using rv⟩) (fun b u z => by have z' : (none : Option HO) = some u := z; cases z') (fun b z => absurd rfl z) fun z => absurd rfl z
  | none =>
    refine core (fun b => if b = a then some (.frz { cls := .type "list", data := .seq vs.toArray } (.lst (ns.map V.int))) else none) (fun b => ?_) (.inl (.inr ⟨{ cls := .type "list", data := .seq vs.toArray }, if_pos rfl⟩)) (fun b u z => ?_) (fun b z => ?_) fun _ => hk
    · by_cases hb : b = a
      · exact .inr ⟨_, _, if_pos hb⟩
      · exact .inl (if_neg hb)
    · by_cases hb : b = a
      · have z' := (if_pos hb).symm.trans z
        cases z'
        subst hb
        exact ⟨ha, by rw [List.length_map]; exact hl, vs, _, rv, ha⟩
      · have z' := (if_neg hb).symm.trans z
        cases z'
    · by_cases hb : b = a
      · exact hb
      · exact absurd (if_neg hb) z
theorem walk_ofG {l : PySem.W.OpenLaw} {n k : Nat} {q : Program} {loose : List Str} {XP : (Str → Option Value) → Heap → Prop} {YP : World → Heap → Prop} {d : DefRec}
    (hn : l.most = some n) (hn2 : n ≤ sizeLine) (hdf : d.params.defaults = []) (hr : Room k callerA)
    (F : ∀ (w : World) (mg : Str → Option Value) (fa : Addr) (h : Heap), YP w h → h.Ns mainGlobals mg → mg d.name = some (.ref fa) →
      ∃ (K : Fg) (sp : Sp), K.In h ∧
        (∀ (H : Hp) (a : Addr) (ns : List Int), ns.length ≤ n → Only H → SqL K H a (ns.map V.int) → sp [.ref a] H (fun v _ => v = .bl true) fun _ _ _ => False) ∧
        ∀ base : Heap, K.In base → base.Ns mainGlobals mg → FnRG l.prog w K mg base k fa sp) :
    PySem.W.WalkO q loose XP YP l.row.toRowW d [] (fun f vs => PySem.call f vs) := by
  refine Att.attach_call hn hdf fun w s₀ s₁ mg mb fa o pm cd doc a vs ns G Y ho hd hcd hmg hobj hints hlen hg => ?_
  obtain ⟨K, sp, KX, hsp, hF⟩ := F w mg fa _ Y G.T.g hmg
  exact law_callG KX G.T.g G.T.b G.T.builtins G.T.nolimit hg hobj hints (Nat.le_trans hlen hn2) hr hF (fun H hO hS => hsp H a ns hlen hO hS) fun H e s' z => z
end TT

-- M19
set_option linter.all false
set_option maxRecDepth 10000
namespace Lad
/-! ### the ladder's turns ask only what the grid gives -/
theorem jg_tot {t u : Ti} (h0 : 1 ≤ t.l) (h1 : u.f ≤ t.s) (h2 : t.s + t.l ≤ u.f + u.l) : JGood t u := by
  unfold JGood Ti.intoLo Ti.intoHi Ti.sh Ti.tu
  split <;> omega
theorem jg_cot {t u : Ti} (h0 : 1 ≤ u.l) (h1 : t.s ≤ u.f) (h2 : u.f + u.l ≤ t.s + t.l) : JGood t u := by
  unfold JGood Ti.intoLo Ti.intoHi Ti.sh Ti.tu
  split <;> omega
theorem read_holds {x : Int → Int} {G : Grid} {e : Int} {c t : Ti} (hc : Gd G e c) (he : c.s + c.l = e) (ht : Gd G e t) (hx : Holds x c) (h0t : Holds x t) : Holds x (readBy c t) := by
  have hl1 := ht.wk.l1
  have hle := ht.le
  have hte := ht.wk.se
  unfold readBy
  cases cp : c.isPin with
  | true =>
    rw [if_pos rfl]
    obtain ⟨c1, c2, c3⟩ := isPin_iff.mp cp
    unfold readPin
    by_cases h1 : t.s < c.s
    · rw [if_pos h1]; exact h0t
    · rw [if_neg h1]
      cases tp : t.isPin with
      | true =>
        rw [if_pos rfl]
        obtain ⟨t1, t2, t3⟩ := isPin_iff.mp tp
        have q1 := (holds_pin cp).mp hx t.s (by omega) (by omega)
        have q2 := (holds_pin tp).mp h0t t.s (by omega) (by omega)
        have e1 : t.join c = tie t.f t.s t.l 0 false false := by
          rw [pin_join cp hl1 ht.wk.nm (by omega) (by omega), t1, t3]
          congr 1
          omega
        rw [e1, holds_mk, t2]
        intro p _ _
        simp only [Bool.false_eq_true, if_false]
        rw [show p + (t.s - t.s) = p by omega]
        omega
      | false =>
        rw [if_neg (by decide)]
        exact (holds_pin_join2 cp hl1 ht.wk.nm (show c.s ≤ t.s by omega) (by omega) hx).mpr h0t
  | false =>
    rw [if_neg (by decide)]
    have ec := hc.ev cp
    unfold readLink
    cases tp : t.isPin with
    | true =>
      rw [if_pos rfl]
      obtain ⟨t1, t2, t3⟩ := isPin_iff.mp tp
      by_cases h1 : t.f < c.s
      · rw [if_pos h1]; exact h0t
      · rw [if_neg h1]
        exact (holds_pin_way ec tp hl1 (show c.s ≤ t.f by omega) (by omega) hx).mpr h0t
    | false =>
      rw [if_neg (by decide)]
      have two : Holds x (readTwo c t) ∧ (readTwo c t).l = t.l ∧ (readTwo c t).f = t.f := by
        unfold readTwo
        by_cases h1 : c.s ≤ t.s
        · rw [if_pos h1]
          refine ⟨(holds_read ec hl1 h1 (by omega) hx).mpr h0t, ?_, ?_⟩
          · rw [join_way ec hl1 h1 (by omega)]; rfl
          · rw [join_way ec hl1 h1 (by omega)]; rfl
        · rw [if_neg h1]; exact ⟨h0t, rfl, rfl⟩
      generalize readTwo c t = u at two
      obtain ⟨u1, u2, u3⟩ := two
      have hfe := ht.wk.fe
      unfold readOne
      by_cases h2 : c.s ≤ u.f
      · rw [if_pos h2, holds_inv]
        exact (holds_read (t := u.inv) ec (show 1 ≤ u.l by omega) h2 (show u.f + u.l ≤ _ by omega) hx).mpr (holds_inv.mpr u1)
      · rw [if_neg h2]; exact u1
theorem way_good {G : Grid} {e : Int} {c : Ti} (hc : Gd G e c) (he : c.s + c.l = e) (hr : G.rk e ≤ 1000) (cp : c.isPin = false) {q : Int} (h1 : c.s ≤ q) (h2 : q < e) : WayOk c q := by
  have ec := hc.ev cp
  refine ⟨?_, fun _ _ => ec.lt⟩
  cases hb : c.b with
  | true =>
    have m1 : c.rounds q c.s = 1 := by unfold Ti.rounds; rw [hb, Bool.true_or, if_pos rfl]
    rw [m1]
    exact ⟨by omega, by omega, fun z => absurd rfl z⟩
  | false =>
    obtain ⟨r1, r2, r3⟩ := rounds_pos ec hb h1
    have lt := ec.lt
    have bm : G.B e := by rw [← he]; exact hc.wk.al.se
    have r4 := rounds_le ec hc.wk.al hb hc.wk.s0 hc.wk.al.s h1 h2 bm (fun e1 => by unfold Ti.sh; omega)
    exact ⟨r1, by omega, fun _ => ⟨hb, by unfold Ti.sh; omega, by omega⟩⟩
theorem read_good {G : Grid} {e : Int} {c t : Ti} (hc : Gd G e c) (he : c.s + c.l = e) (hr : G.rk e ≤ 1000) (ht : Gd G e t) : ReadGood c t := by
  have hl1 := ht.wk.l1
  have hle := ht.le
  have hte := ht.wk.se
  have hfe := ht.wk.fe
  refine ⟨fun cp => ?_, fun cp => ?_⟩
  · obtain ⟨c1, c2, c3⟩ := isPin_iff.mp cp
    refine ⟨fun h => jg_tot hl1 (by omega) (by omega), fun h tp => ?_⟩
    rw [pin_join cp hl1 ht.wk.nm (by omega) (by omega)]
    exact jg_tot hl1 (Int.le_refl _) (Int.le_refl _)
  · have ec := hc.ev cp
    refine ⟨fun tp h => ?_, fun tp h => ?_, fun tp h => ?_⟩
    · obtain ⟨t1, t2, t3⟩ := isPin_iff.mp tp
      have g := way_geo ec h (by omega)
      have a1 := g.at_
      have a2 := g.e
      have e1 : ((c.way t.f).join t).s = t.s ∧ ((c.way t.f).join t).l = t.l := by
        rw [join_cot hl1 a1 (by omega)]
        exact ⟨rfl, rfl⟩
      refine ⟨way_good hc he hr cp h (by omega), jg_cot hl1 a1 (by omega), jg_tot (by omega) ?_ ?_⟩
      · show (c.way t.f).s ≤ _; omega
      · show _ ≤ (c.way t.f).s + (c.way t.f).l; omega
    · have g := way_geo ec h (by omega)
      have a1 := g.at_
      have a2 := g.e
      exact ⟨way_good hc he hr cp h (by omega), jg_tot hl1 a1 (show _ ≤ (c.way t.s).s + (c.way t.s).l by omega)⟩
    · have two : (readTwo c t).l = t.l ∧ (readTwo c t).f = t.f := by
        unfold readTwo
        by_cases h1 : c.s ≤ t.s
        · rw [if_pos h1, join_way ec hl1 h1 (by omega)]
          exact ⟨rfl, rfl⟩
        · rw [if_neg h1]; exact ⟨rfl, rfl⟩
      generalize readTwo c t = u at two h
      obtain ⟨u2, u3⟩ := two
      have g := way_geo ec h (by omega)
      have a1 := g.at_
      have a2 := g.e
      exact ⟨way_good hc he hr cp h (by omega), jg_tot (show 1 ≤ u.l by omega) (show (c.way u.f).s ≤ u.f by omega) (show u.f + u.l ≤ (c.way u.f).s + (c.way u.f).l by omega)⟩
theorem gd_ok {G : Grid} {e : Int} {t : Ti} (h : Gd G e t) (he : e ≤ 10 ^ 30) : Ok t := ⟨h.wk.f0, h.wk.s0, h.wk.l1, by have := h.wk.fe; omega, by have := h.wk.se; omega, h.wk.nm⟩
theorem wk_ok {G : Grid} {e : Int} {t : Ti} (h : Wk G e t) (he : e ≤ 10 ^ 30) : Ok t := ⟨h.f0, h.s0, h.l1, by have := h.fe; omega, by have := h.se; omega, h.nm⟩
/-- the loop's invariant -/
def RI (G : Grid) (size : Int) (T0 : List Ti) (L : List Ti) (C : List Cut) (e : Int) : Prop := RInv G size T0.length (2 * T0.length) T0 L C e
def Fin (size : Int) (T0 : List Ti) (C : List Cut) : Prop := LadOk size T0 C ∧ C.length ≤ 1000 ∧ ∀ k ∈ C, CutGood k
section
variable {G : Grid} {size : Int} {T0 : List Ti}
theorem ri_len (hr : G.rk size ≤ 42) (ht : T0.length ≤ 50) {L : List Ti} {C : List Cut} {e : Int} (I : RI G size T0 L C e) : L.length ≤ 5000 ∧ C.length ≤ 42 := by
  have h1 := I.cnt
  have h2 := I.len
  have h3 : C.length ≤ 42 := by omega
  have h4 : C.length * T0.length ≤ 42 * T0.length := Nat.mul_le_mul_right _ h3
  exact ⟨by omega, h3⟩
theorem b0 (G : Grid) : G.B 0 := by
  have := (G.hf G.d0).1
  simpa using this
theorem rk_le (G : Grid) {a b : Int} (ba : G.B a) (bb : G.B b) (h0 : 0 ≤ a) (h : a ≤ b) : G.rk a ≤ G.rk b := by
  by_cases e : a = b
  · rw [e]; exact Nat.le_refl _
  · exact Nat.le_of_lt (G.mono ba bb h0 (by omega))
theorem endOf_take {ls : List Ti} : endOf ls = endOf ls := rfl
theorem sat_flat {x : Int → Int} {e : Int} : ∀ {ls : List Ti}, (∀ t ∈ ls, Wk G e t) → Sat ls x → Sat (ls.flatMap evened) x
  | [], _, _ => sat_nil
  | t :: ls, h1, h2 => by
    obtain ⟨a, b⟩ := sat_cons.mp h2
    rw [List.flatMap_cons, sat_append]
    exact ⟨((even_ok (h1 t List.mem_cons_self) ⟨x, a⟩).sat x).mpr a, sat_flat (fun u hu => h1 u (List.mem_cons_of_mem _ hu)) b⟩
theorem left_sat {e : Int} {c : Ti} (hc : Gd G e c) (he : c.s + c.l = e) {x : Int → Int} (hx : Holds x c) : ∀ {ms : List Ti}, All G e ms → (∀ t ∈ ms, t.s + t.l = e → t.l ≤ c.l) → Sat ms x → Sat (ms.map (readBy c)) x ∧ Sat (leftOf c ms) x
  | ms, h1, h2, h3 => by
    refine ⟨?_, ((left_ok hc he ms h1 h2 ⟨x, hx, h3⟩).2.1 x hx).mpr h3⟩
    intro u hu
    obtain ⟨t, ht, rfl⟩ := List.mem_map.mp hu
    exact read_holds hc he (h1 t ht) hx (h3 t ht)
end
end Lad
namespace TT
open Lad
theorem rows_of {G : Grid} {size : Int} {T0 : List Ti} (hs : size ≤ 10 ^ 30) (bs : G.B size) (hr : G.rk size ≤ 42) (ht : T0.length ≤ 50) : Rows (RI G size T0) where
  e0 := fun I => I.e0
  ln := fun I => ⟨(ri_len hr ht I).1, Nat.le_trans (ri_len hr ht I).2 (by decide)⟩
  ok := fun I t h => gd_ok (I.gd t h) (by have := I.e1; omega)
  le := fun I => endOf_at I.e0 fun t h => (I.gd t h).wk.se
  at_ := fun {L C e} I h => by
    obtain ⟨t, ht, q⟩ := endOf_mem h fun t h => by
      have := (I.gd t h).wk.s0
      have := (I.gd t h).wk.l1
      omega
    exact ⟨t, ht, q.symm⟩
  zero := fun {C e} I => by
    refine ⟨(fun _ h => nomatch h), Int.le_refl _, by have := I.e0; have := I.e1; omega, b0 G, I.sat, fun k hk => ?_, I.ord, I.ex, I.np, I.len, ?_⟩
    · obtain ⟨a, b, d⟩ := I.ok k hk
      exact ⟨a, by have := I.e0; omega, d⟩
    · have := rk_le G (b0 G) I.be (Int.le_refl _) I.e0
      have := I.cnt
      omega
  step := fun {L C e A k Z} I hL hk hl => by
    obtain ⟨r1, r2, r3⟩ := turn_ok I hL hk hl
    refine ⟨?_, r1, r2⟩
    have hm : ∀ t ∈ A ++ Z, t ∈ L := fun t ht => by
      rw [hL]
      rcases List.mem_append.mp ht with q | q
      · exact List.mem_append_left _ q
      · exact List.mem_append_right _ (List.mem_cons_of_mem _ q)
    have hkm : k ∈ L := by rw [hL]; simp
    have gk : Gd G (endOf L) k := (I.gd k hkm).mono (by omega)
    have gm : All G (endOf L) (A ++ Z) := fun t ht => (I.gd t (hm t ht)).mono (endOf_ge (hm t ht))
    have e1 := I.e1
    have big : endOf L ≤ 10 ^ 30 := by omega
    have be : G.B (endOf L) := by rw [← hk]; exact gk.wk.al.se
    have rke : G.rk (endOf L) ≤ 1000 := Nat.le_trans (rk_le G be bs (endOf_nn L) (by omega)) (Nat.le_trans hr (by decide))
    have okk := gd_ok gk big
    have okm : ∀ t ∈ A ++ Z, Ok t := fun t ht => gd_ok (gm t ht) big
    have rg : ∀ t ∈ A ++ Z, ReadGood k t := fun t ht => read_good gk hk rke (gm t ht)
    obtain ⟨x, hx⟩ := I.ex
    have hx := ((I.sat x).mp hx).1
    have hxk := hx k hkm
    have hxm : Sat (A ++ Z) x := fun t ht => hx t (hm t ht)
    obtain ⟨s1, s2⟩ := left_sat gk hk hxk gm hl hxm
    have lo := left_ok gk hk (A ++ Z) gm hl ⟨x, hxk, hxm⟩
    refine ⟨okk, okm, rg, ⟨?_, fun u hu => ?_, x, s1, s2⟩, fun u hu => ?_, by omega⟩
    · have := (ri_len hr ht I).1
      rw [List.length_map]
      rw [hL, List.length_append, List.length_cons] at this
      rw [List.length_append]
      omega
    · obtain ⟨t, ht', rfl⟩ := List.mem_map.mp hu
      exact read_by_ok okk (okm t ht') (rg t ht')
    · have g := (lo.1 u hu).wk
      have := g.s0
      have := g.l1
      omega
theorem book_ok {G : Grid} {n : Int} {T0 : List Ti} (h0 : 0 ≤ n) (hs : n ≤ 10 ^ 30) (bs : G.B n) (hr : G.rk n ≤ 42) (ht : T0.length ≤ 50) (hW : ∀ t ∈ T0, Wk G n t) (hx : ∃ x, Sat T0 x) : BookOk n T0 (Fin n T0) (RI G n T0) where
  tn := by omega
  gl := by
    obtain ⟨x, hx⟩ := hx
    exact ⟨by omega, fun t h => wk_ok (hW t h) hs, x, hx, sat_flat hW hx⟩
  rw_ := rows_of hs bs hr ht
  i0 := start_ok h0 bs hW hx
  fin := fun {L C e} I he => by
    have hL := rinv_end I he
    refine ⟨rinv_lad I hL, Nat.le_trans (ri_len hr ht I).2 (by decide), fun k hk => ?_⟩
    obtain ⟨a, b, d⟩ := I.ok k hk
    have e0 := I.e0
    have bh : G.B k.hi := by rw [← a.e]; exact a.gd.wk.al.se
    have lt := a.lt
    exact cut_good (size := n) a (gd_ok a.gd (by omega)) (by omega) bh (Nat.le_trans (rk_le G bh bs (by omega) d) (Nat.le_trans hr (by decide)))
  cut := fun h => ⟨h.2.1, h.2.2⟩
end TT

-- W24
set_option Elab.async false
set_option linter.all false
set_option maxRecDepth 100000
set_option maxHeartbeats 4000000
namespace TT
open PySem PySem.Spec PyProof.Rows L2 SX TL
/-- the tuples are kept -/
def Tu (H H' : Hp) : Prop := ∀ q us, H q = some (.tup us) → H' q = some (.tup us)
theorem Tu.of {H H' : Hp} (s : Same H H') : Tu H H' := fun q us e => s q _ e
theorem Tu.trans {H H1 H2 : Hp} (a : Tu H H1) (b : Tu H1 H2) : Tu H H2 := fun q us e => b q us (a q us e)
theorem Tu.rfl {H : Hp} : Tu H H := fun _ _ e => e
theorem Tu.sb {H H' : Hp} {g : Addr} (s : Sb g H H') (h : ∀ us, H g ≠ some (.tup us)) : Tu H H' := fun q us e => s q _ e fun z => h us (by rw [← z]; exact e)
theorem Tu.xs {H H' : Hp} (s : Xs H H') : Tu H H' := fun q us e => s _ _ e (fun _ z => by cases z)
theorem Tu.pot {H H' : Hp} {g : Addr} {k : Int} (s : Sb g H H') (h : PotAt H g k) : Tu H H' := Tu.sb s fun us z => by
  obtain ⟨a, b, c, e, _⟩ := h
  rw [e] at z
  cases z
def RowAt (H : Hp) (v : V) (r : Lad.Row) : Prop := ∃ p, v = V.ref p ∧ H p = some (.tup [V.int r.f, V.int r.s, V.int r.l, V.bl r.d, V.int r.a, V.bl r.b])
def PrAt (H : Hp) (v : V) (z : Lad.Pr) : Prop := ∃ p, v = V.ref p ∧ H p = some (.tup [V.int z.p, V.int z.q, V.int z.s, V.int z.a])
def KnAt (H : Hp) (v : V) (k : Int × Int) : Prop := ∃ p, v = V.ref p ∧ H p = some (.tup [V.int k.1, V.int k.2])
def EdAt (H : Hp) (v : V) (e : Lad.Edge) : Prop := ∃ p, v = V.ref p ∧ H p = some (.tup [V.int e.1, V.int e.2.1, V.int e.2.2])
theorem RowAt.tu {H H' : Hp} {v : V} {r : Lad.Row} (h : RowAt H v r) (t : Tu H H') : RowAt H' v r := by
  obtain ⟨p, e, h⟩ := h
  exact ⟨p, e, t _ _ h⟩
theorem PrAt.tu {H H' : Hp} {v : V} {r : Lad.Pr} (h : PrAt H v r) (t : Tu H H') : PrAt H' v r := by
  obtain ⟨p, e, h⟩ := h
  exact ⟨p, e, t _ _ h⟩
theorem KnAt.tu {H H' : Hp} {v : V} {r : Int × Int} (h : KnAt H v r) (t : Tu H H') : KnAt H' v r := by
  obtain ⟨p, e, h⟩ := h
  exact ⟨p, e, t _ _ h⟩
theorem EdAt.tu {H H' : Hp} {v : V} {r : Lad.Edge} (h : EdAt H v r) (t : Tu H H') : EdAt H' v r := by
  obtain ⟨p, e, h⟩ := h
  exact ⟨p, e, t _ _ h⟩
theorem AnsAt.tu {H H' : Hp} {v : V} {a : Lad.Ans} (h : AnsAt H v a) (t : Tu H H') : AnsAt H' v a := by
  cases a with
  | told n => obtain ⟨p, e, h⟩ := h; exact ⟨p, e, t _ _ h⟩
  | hang d q c => obtain ⟨p, e, h⟩ := h; exact ⟨p, e, t _ _ h⟩
section
variable {P : Program} {w : World} {K : Fg} {mg : Str → Option Value} {base : Heap}
abbrev n__law_partner : List Str := ["_law_row", "_law_number"]
abbrev pr__law_partner : List Str := ["_law_row", "_law_number"]
theorem sc__law_partner : FnScope n__law_partner pr__law_partner (defScope s__law_partner) := ⟨rfl, rfl, rfl, by decide +kernel, rfl, by decide +kernel, by decide +kernel⟩

def spPartnerL : Sp := fun vs H Q _ => ∃ v r n, vs = [v, V.int n] ∧ RowAt H v r ∧ Q (V.int (r.par n)) H
theorem ok__law_partner (c : Env K mg) : Pm P w K mg base 1 (d__law_partner.at_ K) spPartnerL := by
  obtain ⟨fd, F⟩ := fd__law_partner c
  refine .mk0 (F.ok sc__law_partner (ps := pr__law_partner) (by intro vs H Q E h; obtain ⟨_, _, _, rfl, _⟩ := h; rfl) fun cdv A0 outer s0 H vs Q E hr h => ?_) (FunD.bindsN F fun _ _ _ _ _ _ us hl => match us, hl with | [_, _], _ => rfl) F.kp
  obtain ⟨v, r, n, rfl, ⟨p, rfl, hp⟩, hQ⟩ := h
  refine ⟨_, (PSs.nox (pss_one (ps_ret (pe_ifExp (pt_val (pe_ix ix_tup (pv 0) pe_int (fun _ _ => rfl))) (pe_op op_sub (pe_op op_sub (pe_op op_add (pe_ix ix_tup (pv 0) pe_int (fun _ _ => rfl)) (pe_ix ix_tup (pv 0) pe_int (fun _ _ => rfl))) pe_int) (pv 1)) (pe_op op_add (pe_ix ix_tup (pv 0) pe_int (fun _ _ => rfl)) (pv 1)))))), ?_⟩
  refine ⟨_, rfl, p, _, _, _, rfl, rfl, .of hp, rfl, _, rfl, ?_⟩
  unfold Lad.Row.par at hQ
  cases hb : r.b with
  | true =>
    rw [hb, if_pos rfl] at hQ
    exact ifY rfl ⟨_, rfl, p, _, _, _, rfl, rfl, .of hp, rfl, _, rfl, p, _, _, _, rfl, rfl, .of hp, rfl, _, _, rfl, rfl, _, _, rfl, rfl, _, rfl, _, _, rfl, rfl, hQ⟩
  | false =>
    rw [hb, if_neg Bool.false_ne_true] at hQ
    exact ifN rfl ⟨_, rfl, p, _, _, _, rfl, rfl, .of hp, rfl, _, rfl, _, _, rfl, rfl, hQ⟩
abbrev n__law_spot : List Str := ["_law_place", "_law_wide", "_law_offset", "_law_is_turned"]
abbrev pr__law_spot : List Str := ["_law_place", "_law_wide", "_law_offset", "_law_is_turned"]
theorem sc__law_spot : FnScope n__law_spot pr__law_spot (defScope s__law_spot) := ⟨rfl, rfl, rfl, by decide +kernel, rfl, by decide +kernel, by decide +kernel⟩

def spSpot : Sp := fun vs H Q _ => ∃ (p w o : Int) (t : Bool), vs = [V.int p, V.int w, V.int o, V.bl t] ∧ 0 ≤ p ∧ p < 1000 ∧ Q (V.int (Lad.spot w o p t)) H
theorem ok__law_spot (c : Env K mg) : Pm P w K mg base 1 (d__law_spot.at_ K) spSpot := by
  obtain ⟨fd, F⟩ := fd__law_spot c
  refine .mk0 (F.ok sc__law_spot (ps := pr__law_spot) (by intro vs H Q E h; obtain ⟨_, _, _, _, rfl, _⟩ := h; rfl) fun cdv A0 outer s0 H vs Q E hr h => ?_) (FunD.bindsN F fun _ _ _ _ _ _ us hl => match us, hl with | [_, _, _, _], _ => rfl) F.kp
  obtain ⟨p, wd, o, t, rfl, p0, p1, hQ⟩ := h
  refine ⟨_, (PSs.nox (pss_one (ps_ret (pe_op op_add (pe_op op_mul (pv 0) (pv 1)) (pe_ifExp (pt_val (pv 3)) (pe_op op_sub (pe_op op_sub (pv 1) pe_int) (pv 2)) (pv 2)))))), ?_⟩
  refine ⟨_, rfl, _, rfl, _, _, rfl, rfl, .inl ⟨by omega, by omega⟩, _, rfl, _, rfl, ?_⟩
  unfold Lad.spot at hQ
  cases t with
  | true =>
    rw [if_pos rfl] at hQ
    exact ifY rfl ⟨_, rfl, _, _, rfl, rfl, _, rfl, _, _, rfl, rfl, _, _, rfl, rfl, hQ⟩
  | false =>
    rw [if_neg Bool.false_ne_true] at hQ
    exact ifN rfl ⟨_, rfl, _, _, rfl, rfl, hQ⟩
abbrev n__law_pairs : List Str := ["_law_rows", "_law_found_here", "_law_row", "_law_number"]
abbrev pr__law_pairs : List Str := ["_law_rows"]
theorem sc__law_pairs : FnScope n__law_pairs pr__law_pairs (defScope s__law_pairs) := ⟨rfl, rfl, rfl, by decide +kernel, rfl, by decide +kernel, by decide +kernel⟩

def spPairs : Sp := fun vs H Q _ => ∃ a us rs, vs = [V.ref a] ∧ H a = some (.lst us) ∧ Paired (RowAt H) us rs ∧ rs.length ≤ 20 ∧ (∀ r ∈ rs, 1 ≤ r.l ∧ r.l ≤ 50) ∧
  ∀ D acc H', Same H H' → H D = none → H' D = some (.lst acc) → Paired (PrAt H') acc (Lad.pairsOf rs) → Q (V.ref D) H'
theorem ok__law_pairs (c : Env K mg) : Pm P w K mg base 2 (d__law_pairs.at_ K) spPairs := by
  obtain ⟨fd, F⟩ := fd__law_pairs c
  refine .mk0 (F.ok sc__law_pairs (ps := pr__law_pairs) (by intro vs H Q E h; obtain ⟨_, _, _, rfl, _⟩ := h; rfl) fun cdv A0 outer s0 H vs Q E hr h => ?_) (FunD.bindsN F fun _ _ _ _ _ _ us hl => match us, hl with | [_], _ => rfl) F.kp
  obtain ⟨a, us, rs, rfl, ha, hp, hn, hl, hQ⟩ := h
  have hlen := pair_len hp
  refine ⟨_, (PSs.nox (pss_cons (ps_set (i := 1) sc__law_pairs.nd rfl (Or.inl rfl) (pe_lst pa_nil))
    (pss_cons (ps_for PassesOwn.never rfl (pi_list (pv 0)) (pg_name (i := 2) sc__law_pairs.nd rfl (Or.inl rfl))
    (pss_one (ps_for PassesOwn.never rfl (pi_range1 rfl (f_range c) (pa_cons (pe_ix ix_tup (pv 2) pe_int (fun _ _ => rfl)) pa_nil)) (pg_name (i := 3) sc__law_pairs.nd rfl (Or.inl rfl))
    (pss_one (ps_expr (pe_bm PySem.F.plainAttrs_list PySem.F.slot_list_append PySem.F.type_list_append mt_append (pv 1) (pa_cons (pe_tup (pa_cons (pe_op op_add (pe_ix ix_tup (pv 2) pe_int (fun _ _ => rfl)) (pv 3)) (pa_cons (pe_callF (ok__law_partner c) (hr.mono (by decide)) rfl (g__law_partner c) (pa_cons (pv 2) (pa_cons (pv 3) pa_nil))) (pa_cons (pe_ifExp (pt_val (pe_ix ix_tup (pv 2) pe_int (fun _ _ => rfl))) (pe_un un_neg pe_int) pe_int) (pa_cons (pe_ix ix_tup (pv 2) pe_int (fun _ _ => rfl)) pa_nil))))) pa_nil)))))))
    (pss_one (ps_ret (pv 1)))))), ?_⟩
  refine ⟨Nat.zero_le _, fun D nD => ?_⟩
  have lenP : ∀ l : List Lad.Row, (∀ r ∈ l, 1 ≤ r.l ∧ r.l ≤ 50) → (Lad.pairsOf l).length ≤ l.length * 50 := fun l => by
    induction l with
    | nil => exact fun _ => Nat.zero_le _
    | cons r l ih =>
      intro h
      have h1 := h r List.mem_cons_self
      have h2 := ih fun q hq => h q (List.mem_cons_of_mem _ hq)
      unfold Lad.pairsOf at h2 ⊢
      rw [List.flatMap_cons, List.length_append, List.length_cons]
      have e : (Lad.rowPairs r).length = r.l.toNat := by unfold Lad.rowPairs; rw [List.length_map, List.length_range]
      rw [e]
      omega
  refine ⟨_, rfl, a, rfl, ⟨_, .of (same_upd nD _ _ ha)⟩, ?_⟩
  refine for_it (walk_list (xs := us)) (fun i σ H' => ∃ z2 z3 acc, σ = [some (.ref a), some (.ref D), z2, z3] ∧ H' D = some (.lst acc) ∧ Paired (PrAt H') acc (Lad.pairsOf (rs.take i)) ∧ Same H H') ⟨_, _, [], rfl, upd_same, .nil, same_upd nD⟩ (fun i σ H' _ e => by
    obtain ⟨_, _, _, _, _, _, s⟩ := e
    exact SqL.of (K := K) (s _ _ ha)) (fun i x σ H1 H2 hi q hy => ?_) (fun σ H1 q => ?_)
  · obtain ⟨z2, z3, acc, rfl, hD, pa, s1⟩ := q
    obtain ⟨rfl, hy⟩ := hy
    obtain ⟨r, hr1, hrow⟩ := pair_get hp hy
    have hrow1 := hrow.tu (Tu.of s1)
    obtain ⟨pr, rfl, hpr⟩ := id hrow1
    have hri := hl r (List.mem_of_getElem? hr1)
    refine ⟨_, rfl, pr, _, _, _, rfl, rfl, .of hpr, rfl, ?_⟩
    refine ⟨_, rfl, by omega, by omega, ?_⟩
    have hr3 : rs.take (i + 1) = rs.take i ++ [r] := by rw [List.take_add_one, hr1]; rfl
    have el : (Lad.rowPairs r).length = r.l.toNat := by unfold Lad.rowPairs; rw [List.length_map, List.length_range]
    have ep : Lad.pairsOf (rs.take (i + 1)) = Lad.pairsOf (rs.take i) ++ Lad.rowPairs r := by
      rw [hr3]
      unfold Lad.pairsOf
      rw [List.flatMap_append, List.flatMap_cons, List.flatMap_nil, List.append_nil]
    refine for_it walk_range (fun j σ H' => ∃ z3 acc, σ = [some (.ref a), some (.ref D), some (.ref pr), z3] ∧ H' D = some (.lst acc) ∧ Paired (PrAt H') acc (Lad.pairsOf (rs.take i) ++ (Lad.rowPairs r).take j) ∧ Same H H') ⟨z3, acc, rfl, hD, by rw [List.take_zero, List.append_nil]; exact pa, s1⟩ (fun _ _ _ _ _ => trivial) (fun j x σ H' H2 hj q hy => ?_) (fun σ H' q => ?_)
    · obtain ⟨z3, acc, rfl, hD, pa, s2⟩ := q
      obtain ⟨rfl, rfl⟩ := hy
      have hpr2 := Tu.of s2 _ _ (show H pr = _ from (by obtain ⟨p', e', h'⟩ := hrow; cases e'; exact h'))
      have hj2 : j < r.l.toNat := hj
      have hla := pair_len pa
      have h1 := lenP (rs.take i) fun q hq => hl q (List.mem_of_mem_take hq)
      have h2 : (rs.take i).length ≤ 20 := by rw [List.length_take]; omega
      have h3 : ((Lad.rowPairs r).take j).length ≤ 50 := by rw [List.length_take, el]; omega
      rw [List.length_append] at hla
      have et : (Lad.rowPairs r).take (j + 1) = (Lad.rowPairs r).take j ++ [⟨r.f + (0 + (j : Int)), r.par (0 + (j : Int)), Lad.sg r.d, r.a⟩] := by
        rw [List.take_add_one]
        congr 1
        unfold Lad.rowPairs
        rw [List.getElem?_map, List.getElem?_range hj2, Int.zero_add]
        rfl
      have fin : ∀ p, H2 p = none → ∃ z3 acc', [some (V.ref a), some (V.ref D), some (V.ref pr), some (V.int (0 + (j : Int)))] = [some (.ref a), some (.ref D), some (.ref pr), z3] ∧ (upd (upd H2 p (.tup [V.int (r.f + (0 + (j : Int))), V.int (r.par (0 + (j : Int))), V.int (Lad.sg r.d), V.int r.a])) D (.lst (acc ++ [V.ref p]))) D = some (.lst acc') ∧
          Paired (PrAt (upd (upd H2 p (.tup [V.int (r.f + (0 + (j : Int))), V.int (r.par (0 + (j : Int))), V.int (Lad.sg r.d), V.int r.a])) D (.lst (acc ++ [V.ref p])))) acc' (Lad.pairsOf (rs.take i) ++ (Lad.rowPairs r).take (j + 1)) ∧ Same H (upd (upd H2 p (.tup [V.int (r.f + (0 + (j : Int))), V.int (r.par (0 + (j : Int))), V.int (Lad.sg r.d), V.int r.a])) D (.lst (acc ++ [V.ref p]))) := fun p np => by
        have sp := same_upd (o := .tup [V.int (r.f + (0 + (j : Int))), V.int (r.par (0 + (j : Int))), V.int (Lad.sg r.d), V.int r.a]) np
        have xs := Xs.lst (ys := acc ++ [V.ref p]) (sp _ _ hD)
        have tu := (Tu.of sp).trans (Tu.xs xs)
        refine ⟨_, _, rfl, upd_same, ?_, same_set (s2.trans sp) nD⟩
        rw [et, ← List.append_assoc]
        refine pair_app (pair_mono pa fun _ _ y => y.tu tu) (.cons ⟨p, rfl, ?_⟩ .nil)
        exact Tu.xs xs _ _ upd_same
      refine ⟨_, rfl, .inl ⟨rfl, _, .of hD⟩, _, rfl, pr, _, _, _, rfl, rfl, .of hpr2, rfl, _, rfl, _, _, rfl, rfl, _, rfl, _, rfl, _, r, _, rfl, ⟨pr, rfl, hpr2⟩, _, rfl, pr, _, _, _, rfl, rfl, .of hpr2, rfl, _, rfl, ?_⟩
      cases hd : r.d with
      | true =>
        have e : Lad.sg r.d = -1 := by rw [hd]; rfl
        rw [e] at fin
        refine ifY rfl ⟨_, rfl, _, rfl, pr, _, _, _, rfl, rfl, .of hpr2, rfl, by show 4 ≤ sizeLine; decide, fun p np => ⟨D, acc, _, rfl, rfl, same_upd np _ _ hD, lt_line (by omega), fin p np⟩⟩
      | false =>
        have e : Lad.sg r.d = 1 := by rw [hd]; rfl
        rw [e] at fin
        refine ifN rfl ⟨_, rfl, pr, _, _, _, rfl, rfl, .of hpr2, rfl, by show 4 ≤ sizeLine; decide, fun p np => ⟨D, acc, _, rfl, rfl, same_upd np _ _ hD, lt_line (by omega), fin p np⟩⟩
    · obtain ⟨z3, acc, rfl, hD, pa, s2⟩ := q
      refine ⟨_, _, acc, rfl, hD, ?_, s2⟩
      rw [ep]
      have et : (Lad.rowPairs r).take r.l.toNat = Lad.rowPairs r := List.take_of_length_le (by rw [el]; exact Nat.le_refl _)
      rw [← et]
      exact pa
  · obtain ⟨z2, z3, acc, rfl, hD, pa, s1⟩ := q
    rw [hlen, List.take_length] at pa
    exact ⟨_, rfl, hQ D acc _ s1 nD hD pa⟩
end
end TT

-- W25
set_option Elab.async false
set_option linter.all false
set_option maxRecDepth 100000
set_option maxHeartbeats 4000000
namespace TT
open PySem PySem.Spec PyProof.Rows L2 SX TL
theorem log_small {n : Int} (h : n.natAbs < 10 ^ 100) : n.natAbs.log2 < 1920 := PySem.Flt.log2_lt_of (by decide) (Nat.lt_of_lt_of_le h (Nat.le_trans (show 10 ^ 100 ≤ 16 ^ 100 from Nat.pow_le_pow_left (by decide) _) (by
  rw [show 16 = 2 ^ 4 from rfl, ← Nat.pow_mul]
  exact Nat.pow_le_pow_right (by decide) (by decide))))
theorem lt_600 {n : Int} (h : n.natAbs < 10 ^ 100) : n.natAbs < 10 ^ 600 := Nat.lt_of_lt_of_le h (Nat.pow_le_pow_right (by decide) (by decide))
structure RowS (r : Lad.Row) : Prop where
  f : r.f.natAbs < 10 ^ 100
  s : r.s.natAbs < 10 ^ 100
  l : r.l.natAbs < 10 ^ 100
  a : r.a.natAbs < 10 ^ 100
  bb : r.b = true → 1 < r.l
theorem rw6_len {r : Lad.Row} (h : RowS r) : ∀ p ∈ rw6 r, p.length ≤ 640 := by
  intro p hp
  unfold rw6 rowW at hp
  simp only [List.mem_append, List.mem_cons, List.not_mem_nil, or_false] at hp
  rcases hp with (rfl | rfl | rfl | rfl | rfl) | hp
  · exact intL_len (lt_600 h.f)
  · exact intL_len (lt_600 h.s)
  · exact intL_len (lt_600 h.l)
  · cases r.d <;> decide
  · exact intL_len (lt_600 h.a)
  · cases hb : r.b
    · rw [hb] at hp; cases hp
    · rw [hb] at hp
      have : p = [98, 97, 99, 107] := by simpa using hp
      subst this
      decide
theorem sum_len {m : Nat} : ∀ {ps : List (List Nat)}, (∀ p ∈ ps, p.length ≤ m) → ((ps.map S).map (·.length)).sum ≤ ps.length * m
  | [], _ => Nat.zero_le _
  | p :: ps, h => by
    have h1 := h p List.mem_cons_self
    have h2 := sum_len (m := m) fun q hq => h q (List.mem_cons_of_mem _ hq)
    rw [List.map_cons, List.map_cons, List.sum_cons, S_len, List.length_cons, Nat.succ_mul]
    omega
section
variable {P : Program} {w : World} {K : Fg} {mg : Str → Option Value} {base : Heap}
abbrev n__law_tie_text : List Str := ["_law_row", "_law_words", "_law_first", "_law_second", "_law_length", "_law_is_down", "_law_amount_here", "_law_is_back"]
abbrev pr__law_tie_text : List Str := ["_law_row"]
theorem sc__law_tie_text : FnScope n__law_tie_text pr__law_tie_text (defScope s__law_tie_text) := ⟨rfl, rfl, rfl, by decide +kernel, rfl, by decide +kernel, by decide +kernel⟩

def spTieText : Sp := fun vs H Q _ => ∃ v r, vs = [v] ∧ RowAt H v r ∧ RowS r ∧ ∀ H', Same H H' → Q (V.str (S (joinL [32] (rw6 r)))) H'
theorem ok__law_tie_text (c : Env K mg) : Pm P w K mg base 1 (d__law_tie_text.at_ K) spTieText := by
  obtain ⟨fd, F⟩ := fd__law_tie_text c
  refine .mk0 (F.ok sc__law_tie_text (ps := pr__law_tie_text) (by intro vs H Q E h; obtain ⟨_, _, rfl, _⟩ := h; rfl) fun cdv A0 outer s0 H vs Q E hr h => ?_) (FunD.bindsN F fun _ _ _ _ _ _ us hl => match us, hl with | [_], _ => rfl) F.kp
  obtain ⟨v, r, rfl, ⟨p, rfl, hp⟩, sm, hQ⟩ := h
  refine ⟨_, (PSs.nox (pss_cons (ps_asg (pv 0) (pg_tup rfl (pgs_cons (pg_name (i := 2) sc__law_tie_text.nd rfl (Or.inl rfl)) (pgs_cons (pg_name (i := 3) sc__law_tie_text.nd rfl (Or.inl rfl)) (pgs_cons (pg_name (i := 4) sc__law_tie_text.nd rfl (Or.inl rfl)) (pgs_cons (pg_name (i := 5) sc__law_tie_text.nd rfl (Or.inl rfl)) (pgs_cons (pg_name (i := 6) sc__law_tie_text.nd rfl (Or.inl rfl)) (pgs_cons (pg_name (i := 7) sc__law_tie_text.nd rfl (Or.inl rfl)) pgs_nil))))))))
    (pss_cons (ps_set (i := 1) sc__law_tie_text.nd rfl (Or.inl rfl) (pe_lst (pa_cons (pe_callTy call_str_int (by rfl) (f_str c) (by decide +kernel) (pa_cons (pv 2) pa_nil)) (pa_cons (pe_callTy call_str_int (by rfl) (f_str c) (by decide +kernel) (pa_cons (pv 3) pa_nil)) (pa_cons (pe_callTy call_str_int (by rfl) (f_str c) (by decide +kernel) (pa_cons (pv 4) pa_nil)) (pa_cons (pe_ifExp (pt_val (pv 5)) pe_str pe_str) (pa_cons (pe_callTy call_str_int (by rfl) (f_str c) (by decide +kernel) (pa_cons (pv 6) pa_nil)) pa_nil)))))))
    (pss_one (ps_ret (pe_join pe_str (pe_op op_cat (pv 1) (pe_op op_rep (pe_lst (pa_cons pe_str pa_nil)) (pe_callTy call_int1 (by rfl) (f_int c) (by decide +kernel) (pa_cons (pe_and (pv 7) (pe_one (pe_cmpR op_gt (pv 4) pe_int (nomark _)))) pa_nil)))))))))), ?_⟩
  refine ⟨_, rfl, p, _, rfl, .of hp, rfl, _, _, rfl, _, _, rfl, _, _, rfl, _, _, rfl, _, _, rfl, _, _, rfl, rfl, ?_⟩
  refine ⟨_, rfl, _, rfl, log_small sm.f, _, rfl, _, rfl, log_small sm.s, _, rfl, _, rfl, log_small sm.l, _, rfl, _, rfl, ?_⟩
  have go : ∀ (u : Str), u = S (wDn r.d) → ∀ q, H q = none → Same H (upd H q (.lst [V.str (toString r.f), V.str (toString r.s), V.str (toString r.l), V.str u, V.str (toString r.a)])) ∧
      (upd H q (.lst [V.str (toString r.f), V.str (toString r.s), V.str (toString r.l), V.str u, V.str (toString r.a)])) q = some (.lst (([intL r.f, intL r.s, intL r.l, wDn r.d, intL r.a].map S).map V.str)) := fun u hu q nq => by
    refine ⟨same_upd nq, ?_⟩
    rw [upd_same, hu, str_S, str_S, str_S, str_S]
    rfl
  have br : ∀ {c : Bool} {A B : Prop}, (c = true → A) → (c = false → B) → (if c = true then A else B) := fun {c A B} h1 h2 => by
    cases c
    · exact h2 rfl
    · exact h1 rfl
  refine br (fun hd => ⟨_, rfl, _, rfl, log_small sm.a, (show 5 ≤ sizeLine by decide), fun q nq => ?_⟩) (fun hd => ⟨_, rfl, _, rfl, log_small sm.a, (show 5 ≤ sizeLine by decide), fun q nq => ?_⟩)
  · obtain ⟨s1, hq⟩ := go (Str.ofString "down") (by rw [hd]; exact k_down) q nq
    revert s1 hq
    generalize upd H q _ = H1
    intro s1 hq
    refine ⟨⟨_, rfl⟩, _, rfl, by show 1 ≤ sizeLine; decide, fun q2 nq2 => ?_⟩
    have s2 := s1.trans (same_upd nq2 (o := .lst [V.str (Str.ofString "back")]))
    have hq2 := same_upd nq2 (o := .lst [V.str (Str.ofString "back")]) _ _ hq
    have hb2 := @upd_same H1 q2 (.lst [V.str (Str.ofString "back")])
    revert s2 hq2 hb2
    generalize upd H1 q2 (.lst [V.str (Str.ofString "back")]) = H2
    intro s2 hq2 hb2
    have fin : ∀ (zs : List V), ([intL r.f, intL r.s, intL r.l, wDn r.d, intL r.a].map S).map V.str ++ zs = ((rw6 r).map S).map V.str → ∀ H3 q4, Same H H3 → H3 q4 = none → ∃ a p ys, V.str (Str.ofString " ") = V.str a ∧ [V.ref q4] = [V.ref p] ∧ (SqL K (upd H3 q4 (.lst (([intL r.f, intL r.s, intL r.l, wDn r.d, intL r.a].map S).map V.str ++ zs))) p (List.map V.str ys) ∨ SqT K (upd H3 q4 (.lst (([intL r.f, intL r.s, intL r.l, wDn r.d, intL r.a].map S).map V.str ++ zs))) p (List.map V.str ys)) ∧ (List.map (fun x => x.length) ys).sum + ys.length * a.length ≤ 16777216 ∧ Q (V.str (Txt.join a ys)) (upd H3 q4 (.lst (([intL r.f, intL r.s, intL r.l, wDn r.d, intL r.a].map S).map V.str ++ zs))) := fun zs hz H3 q4 s3 n4 => by
      rw [hz]
      refine ⟨_, q4, (rw6 r).map S, rfl, rfl, .inl (.of upd_same), ?_, ?_⟩
      · have h1 := sum_len (rw6_len sm)
        have h2 : (rw6 r).length ≤ 6 := rowW_n
        rw [List.length_map, k_blank, S_len]
        show _ + _ * 1 ≤ _
        omega
      · rw [k_blank, join_S]
        exact hQ _ (s3.trans (same_upd n4))
    refine ⟨_, rfl, _, rfl, ?_⟩
    refine br (fun hb => ?_) (fun hb => ?_)
    · have hl := sm.bb hb
      refine ⟨_, rfl, _, _, rfl, rfl, ?_⟩
      refine .inr ⟨_, rfl, q2, 1, _, rfl, (by rw [decide_eq_true hl]; rfl), hb2, by decide, by decide, by show 1 * 1 ≤ sizeLine; decide, fun q3 n3 => ⟨q, q3, _, _, rfl, rfl, same_upd n3 _ _ hq2, upd_same, by show 5 + 1 ≤ sizeLine; decide, fun q4 n4 => ?_⟩⟩
      refine fin _ ?_ _ q4 (s2.trans (same_upd n3)) n4
      unfold rw6 rowW
      rw [hb, k_back]
      rfl
    · refine .inr ⟨false, rfl, q2, _, _, rfl, rfl, hb2, by decide, by decide, by show 1 * 0 ≤ sizeLine; decide, fun q3 n3 => ⟨q, q3, _, _, rfl, rfl, same_upd n3 _ _ hq2, upd_same, by show 5 + 0 ≤ sizeLine; decide, fun q4 n4 => ?_⟩⟩
      refine fin _ ?_ _ q4 (s2.trans (same_upd n3)) n4
      unfold rw6 rowW
      rw [hb]
      rfl
  · obtain ⟨s1, hq⟩ := go (Str.ofString "up") (by rw [hd]; exact k_up) q nq
    revert s1 hq
    generalize upd H q _ = H1
    intro s1 hq
    refine ⟨⟨_, rfl⟩, _, rfl, by show 1 ≤ sizeLine; decide, fun q2 nq2 => ?_⟩
    have s2 := s1.trans (same_upd nq2 (o := .lst [V.str (Str.ofString "back")]))
    have hq2 := same_upd nq2 (o := .lst [V.str (Str.ofString "back")]) _ _ hq
    have hb2 := @upd_same H1 q2 (.lst [V.str (Str.ofString "back")])
    revert s2 hq2 hb2
    generalize upd H1 q2 (.lst [V.str (Str.ofString "back")]) = H2
    intro s2 hq2 hb2
    have fin : ∀ (zs : List V), ([intL r.f, intL r.s, intL r.l, wDn r.d, intL r.a].map S).map V.str ++ zs = ((rw6 r).map S).map V.str → ∀ H3 q4, Same H H3 → H3 q4 = none → ∃ a p ys, V.str (Str.ofString " ") = V.str a ∧ [V.ref q4] = [V.ref p] ∧ (SqL K (upd H3 q4 (.lst (([intL r.f, intL r.s, intL r.l, wDn r.d, intL r.a].map S).map V.str ++ zs))) p (List.map V.str ys) ∨ SqT K (upd H3 q4 (.lst (([intL r.f, intL r.s, intL r.l, wDn r.d, intL r.a].map S).map V.str ++ zs))) p (List.map V.str ys)) ∧ (List.map (fun x => x.length) ys).sum + ys.length * a.length ≤ 16777216 ∧ Q (V.str (Txt.join a ys)) (upd H3 q4 (.lst (([intL r.f, intL r.s, intL r.l, wDn r.d, intL r.a].map S).map V.str ++ zs))) := fun zs hz H3 q4 s3 n4 => by
      rw [hz]
      refine ⟨_, q4, (rw6 r).map S, rfl, rfl, .inl (.of upd_same), ?_, ?_⟩
      · have h1 := sum_len (rw6_len sm)
        have h2 : (rw6 r).length ≤ 6 := rowW_n
        rw [List.length_map, k_blank, S_len]
        show _ + _ * 1 ≤ _
        omega
      · rw [k_blank, join_S]
        exact hQ _ (s3.trans (same_upd n4))
    refine ⟨_, rfl, _, rfl, ?_⟩
    refine br (fun hb => ?_) (fun hb => ?_)
    · have hl := sm.bb hb
      refine ⟨_, rfl, _, _, rfl, rfl, ?_⟩
      refine .inr ⟨_, rfl, q2, 1, _, rfl, (by rw [decide_eq_true hl]; rfl), hb2, by decide, by decide, by show 1 * 1 ≤ sizeLine; decide, fun q3 n3 => ⟨q, q3, _, _, rfl, rfl, same_upd n3 _ _ hq2, upd_same, by show 5 + 1 ≤ sizeLine; decide, fun q4 n4 => ?_⟩⟩
      refine fin _ ?_ _ q4 (s2.trans (same_upd n3)) n4
      unfold rw6 rowW
      rw [hb, k_back]
      rfl
    · refine .inr ⟨false, rfl, q2, _, _, rfl, rfl, hb2, by decide, by decide, by show 1 * 0 ≤ sizeLine; decide, fun q3 n3 => ⟨q, q3, _, _, rfl, rfl, same_upd n3 _ _ hq2, upd_same, by show 5 + 0 ≤ sizeLine; decide, fun q4 n4 => ?_⟩⟩
      refine fin _ ?_ _ q4 (s2.trans (same_upd n3)) n4
      unfold rw6 rowW
      rw [hb]
      rfl
end
end TT

-- W26
set_option Elab.async false
set_option linter.all false
set_option maxRecDepth 100000
set_option maxHeartbeats 4000000
namespace TT
open PySem PySem.Spec PyProof.Rows L2 SX TL
theorem ix_tupK {X : Cx} {K : Fg} (e : X.K = K) : IxR X (rIxT K) := by subst e; exact ix_tup
theorem ix_listK {X : Cx} {K : Fg} (e : X.K = K) : IxR X (rIxL K) := by subst e; exact ix_list
theorem k_st : ¬ (Sum.inr (Str.ofString "size") : Key) = Sum.inr (Str.ofString "ties") := by decide +kernel
theorem k_sn : ¬ (Sum.inr (Str.ofString "size") : Key) = Sum.inr (Str.ofString "notes") := by decide +kernel
theorem k_tn : ¬ (Sum.inr (Str.ofString "ties") : Key) = Sum.inr (Str.ofString "notes") := by decide +kernel
abbrev loreK (n : Int) (T N : Addr) : List (Key × V) := [(.inr "size", V.int n), (.inr "ties", V.ref T), (.inr "notes", V.ref N)]
theorem lk_size {n : Int} {T N : Addr} : valV (loreK n T N) (.inr "size") = some (V.int n) := valV_pos rfl
theorem lk_ties {n : Int} {T N : Addr} : valV (loreK n T N) (.inr "ties") = some (V.ref T) := by
  rw [valV_neg k_st, valV_pos rfl]
theorem lk_notes {n : Int} {T N : Addr} : valV (loreK n T N) (.inr "notes") = some (V.ref N) := by
  rw [valV_neg k_sn, valV_neg k_tn, valV_pos rfl]
theorem dg_size {H : Hp} {D : Addr} {n : Int} {T N : Addr} (h : H D = some (.dK (loreK n T N))) : DGet H D (V.str "size") (some (V.int n)) := by
  rw [← lk_size (n := n) (T := T) (N := N)]
  exact DGet.k (k := .inr "size") h
theorem dg_ties {H : Hp} {D : Addr} {n : Int} {T N : Addr} (h : H D = some (.dK (loreK n T N))) : DGet H D (V.str "ties") (some (V.ref T)) := by
  rw [← lk_ties (n := n) (T := T) (N := N)]
  exact DGet.k (k := .inr "ties") h
theorem dg_notes {H : Hp} {D : Addr} {n : Int} {T N : Addr} (h : H D = some (.dK (loreK n T N))) : DGet H D (V.str "notes") (some (V.ref N)) := by
  rw [← lk_notes (n := n) (T := T) (N := N)]
  exact DGet.k (k := .inr "notes") h
theorem lore_mk (a b d : V) : mergeK [] [((.inr "size" : Key), a), ((.inr "ties" : Key), b), ((.inr "notes" : Key), d)] = [(.inr "size", a), (.inr "ties", b), (.inr "notes", d)] := by
  have h1 : ¬ (Sum.inr (Str.ofString "ties") : Key) = Sum.inr (Str.ofString "size") := fun e => k_st e.symm
  have h2 : ¬ (Sum.inr (Str.ofString "notes") : Key) = Sum.inr (Str.ofString "size") := fun e => k_sn e.symm
  unfold mergeK
  simp only [List.foldl_cons, List.foldl_nil]
  unfold putK
  simp only [List.any_nil, List.any_cons, decide_eq_false k_st, decide_eq_false k_sn, decide_eq_false k_tn, Bool.false_eq_true, if_false, Bool.or_false, List.nil_append, List.cons_append]
def LoreAt (H : Hp) (D : Addr) (n : Int) (rs : List Lad.Row) (ks : Lad.Known) : Prop := ∃ T N us ws, H D = some (.dK (loreK n T N)) ∧ H T = some (.lst us) ∧ Paired (RowAt H) us rs ∧ H N = some (.lst ws) ∧ Paired (KnAt H) ws ks
theorem LoreAt.mono {H H' : Hp} {D : Addr} {n : Int} {rs : List Lad.Row} {ks : Lad.Known} (h : LoreAt H D n rs ks) (s : Same H H') : LoreAt H' D n rs ks := by
  obtain ⟨T, N, us, ws, h1, h2, h3, h4, h5⟩ := h
  exact ⟨T, N, us, ws, s _ _ h1, s _ _ h2, pair_mono h3 fun _ _ y => y.tu (Tu.of s), s _ _ h4, pair_mono h5 fun _ _ y => y.tu (Tu.of s)⟩
/-- .. while a list (a pot) or an instance (a book) is changed -/
theorem LoreAt.sb {H H' : Hp} {D g : Addr} {n : Int} {rs : List Lad.Row} {ks : Lad.Known} {T N : Addr} {us ws : List V} (h1 : H D = some (.dK (loreK n T N))) (h2 : H T = some (.lst us)) (h3 : Paired (RowAt H) us rs) (h4 : H N = some (.lst ws)) (h5 : Paired (KnAt H) ws ks) (s : Sb g H H')
    (nT : T ≠ g) (nN : N ≠ g) (nD : D ≠ g) (ng : ∀ us, H g ≠ some (.tup us)) : LoreAt H' D n rs ks :=
  ⟨T, N, us, ws, s _ _ h1 nD, s _ _ h2 nT, pair_mono h3 fun _ _ y => y.tu (Tu.sb s ng), s _ _ h4 nN, pair_mono h5 fun _ _ y => y.tu (Tu.sb s ng)⟩
section
variable {P : Program} {w : World} {K : Fg} {mg : Str → Option Value} {base : Heap}
abbrev n__law_block_rows : List Str := ["_law_rows", "_law_wide", "_law_row"]
abbrev pr__law_block_rows : List Str := ["_law_rows", "_law_wide"]
theorem sc__law_block_rows : FnScope n__law_block_rows pr__law_block_rows (defScope s__law_block_rows) := ⟨rfl, rfl, rfl, by decide +kernel, rfl, by decide +kernel, by decide +kernel⟩

def spBlockRows : Sp := fun vs H Q _ => ∃ (a : Addr) (us : List V) (rs : List Lad.Row) (wd : Int), vs = [V.ref a, V.int wd] ∧ H a = some (.lst us) ∧ Paired (RowAt H) us rs ∧ rs.length ≤ 50 ∧ (∀ r ∈ rs, 0 ≤ r.f ∧ r.f < 100 ∧ 0 ≤ r.s ∧ r.s < 100 ∧ 0 ≤ r.l ∧ r.l < 100) ∧
  ∀ D acc H', Same H H' → H D = none → H' D = some (.lst acc) → Paired (RowAt H') acc (rs.map (Lad.blockRow wd)) → Q (V.ref D) H'
theorem ok__law_block_rows (c : Env K mg) : Pm P w K mg base 1 (d__law_block_rows.at_ K) spBlockRows := by
  obtain ⟨fd, F⟩ := fd__law_block_rows c
  refine .mk0 (F.ok sc__law_block_rows (ps := pr__law_block_rows) (by intro vs H Q E h; obtain ⟨_, _, _, _, rfl, _⟩ := h; rfl) fun cdv A0 outer s0 H vs Q E hr h => ?_) (FunD.bindsN F fun _ _ _ _ _ _ us hl => match us, hl with | [_, _], _ => rfl) F.kp
  obtain ⟨a, us, rs, wd, rfl, ha, hp, hn, hl, hQ⟩ := h
  have hlen := pair_len hp
  refine ⟨_, (PSs.nox (pss_one (ps_ret (pe_lc (own := [("_law_row", 2)]) (g := (gName 2)) (tt := tYes) (by rfl) sc__law_block_rows.nd (pi_list (pv 0)) (blkOk_by (own := [("_law_row", 2)]) (N := n__law_block_rows) (sc := defScope s__law_block_rows) (by decide +kernel)) (fun _ _ _ _ _ => (pg_name (i := 2) sc__law_block_rows.nd rfl (Or.inl rfl))) (fun _ _ _ _ _ => pts_nil) (fun _ _ _ _ _ => (pe_tup (pa_cons (pe_op op_mul (pe_ix (ix_tupK rfl) (pv 2) pe_int (fun _ _ => rfl)) (pv 1)) (pa_cons (pe_op op_mul (pe_ix (ix_tupK rfl) (pv 2) pe_int (fun _ _ => rfl)) (pv 1)) (pa_cons (pe_op op_mul (pe_ix (ix_tupK rfl) (pv 2) pe_int (fun _ _ => rfl)) (pv 1)) (pa_cons (pe_ix (ix_tupK rfl) (pv 2) pe_int (fun _ _ => rfl)) (pa_cons (pe_ix (ix_tupK rfl) (pv 2) pe_int (fun _ _ => rfl)) (pa_cons (pe_ix (ix_tupK rfl) (pv 2) pe_int (fun _ _ => rfl)) pa_nil)))))))))))), ?_⟩
  refine ⟨_, rfl, a, rfl, ⟨_, .of ha⟩, fun D nD => ?_⟩
  refine lc_it (walk_list (xs := us)) (fun i H' => ∃ acc, H' D = some (.lst acc) ∧ Paired (RowAt H') acc ((rs.map (Lad.blockRow wd)).take i) ∧ Same H H') ⟨[], upd_same, .nil, same_upd nD⟩ (fun i H' _ ⟨_, _, _, s⟩ => SqL.of (K := K) (s _ _ ha)) (fun i x H1 H2 hi q hy => ?_) (fun H1 q => ?_)
  · obtain ⟨acc, hD, pa, s1⟩ := q
    obtain ⟨rfl, hy⟩ := hy
    obtain ⟨r, hr1, hrow⟩ := pair_get hp hy
    obtain ⟨pr, rfl, hpr⟩ := hrow.tu (Tu.of s1)
    obtain ⟨f0, f1, s0', s1', l0, l1⟩ := hl r (List.mem_of_getElem? hr1)
    have hla := pair_len pa
    rw [List.length_take, List.length_map] at hla
    refine ⟨rfl, _, rfl, pr, _, _, _, rfl, rfl, .of hpr, rfl, _, rfl, _, _, rfl, rfl, .inl ⟨by omega, by omega⟩, _, rfl, pr, _, _, _, rfl, rfl, .of hpr, rfl, _, rfl, _, _, rfl, rfl, .inl ⟨by omega, by omega⟩, _, rfl, pr, _, _, _, rfl, rfl, .of hpr, rfl, _, rfl, _, _, rfl, rfl, .inl ⟨by omega, by omega⟩, _, rfl, pr, _, _, _, rfl, rfl, .of hpr, rfl, _, rfl, pr, _, _, _, rfl, rfl, .of hpr, rfl, _, rfl, pr, _, _, _, rfl, rfl, .of hpr, rfl, by show 6 ≤ sizeLine; decide, fun p np => ?_⟩
    have sp := same_upd (o := .tup [V.int (r.f * wd), V.int (r.s * wd), V.int (r.l * wd), V.bl r.d, V.int r.a, V.bl r.b]) np
    have xs := Xs.lst (ys := acc ++ [V.ref p]) (sp _ _ hD)
    have tu := (Tu.of sp).trans (Tu.xs xs)
    refine ⟨acc, sp _ _ hD, lt_line (by omega), acc ++ [V.ref p], upd_same, ?_, same_set (s1.trans sp) nD⟩
    rw [List.take_add_one, List.getElem?_map, hr1]
    refine pair_app (pair_mono pa fun _ _ y => y.tu tu) (.cons ⟨p, rfl, ?_⟩ .nil)
    exact Tu.xs xs _ _ upd_same
  · obtain ⟨acc, hD, pa, s1⟩ := q
    rw [List.take_of_length_le (by rw [List.length_map]; omega)] at pa
    exact hQ D acc _ s1 nD hD pa
abbrev n__law_blocks : List Str := ["_law_lore_here", "_law_wide", "_law_rows", "_law_place", "_law_note"]
abbrev pr__law_blocks : List Str := ["_law_lore_here", "_law_wide"]
theorem sc__law_blocks : FnScope n__law_blocks pr__law_blocks (defScope s__law_blocks) := ⟨rfl, rfl, rfl, by decide +kernel, rfl, by decide +kernel, by decide +kernel⟩

def spBlocks : Sp := fun vs H Q _ => ∃ (D : Addr) (n : Int) (rs : List Lad.Row) (ks : Lad.Known) (wd : Int), vs = [V.ref D, V.int wd] ∧ LoreAt H D n rs ks ∧ rs.length ≤ 20 ∧ ks.length ≤ 20 ∧ 0 ≤ n ∧ n < 100 ∧ (∀ r ∈ Lad.allRows rs ks, 0 ≤ r.f ∧ r.f < 100 ∧ 0 ≤ r.s ∧ r.s < 100 ∧ 0 ≤ r.l ∧ r.l < 100) ∧
  ∀ D' H', Same H H' → LoreAt H' D' (n * wd) ((Lad.allRows rs ks).map (Lad.blockRow wd)) [] → Q (V.ref D') H'
theorem ok__law_blocks (c : Env K mg) : Pm P w K mg base 2 (d__law_blocks.at_ K) spBlocks := by
  obtain ⟨fd, F⟩ := fd__law_blocks c
  refine .mk0 (F.ok sc__law_blocks (ps := pr__law_blocks) (by intro vs H Q E h; obtain ⟨_, _, _, _, _, rfl, _⟩ := h; rfl) fun cdv A0 outer s0 H vs Q E hr h => ?_) (FunD.bindsN F fun _ _ _ _ _ _ us hl => match us, hl with | [_, _], _ => rfl) F.kp
  obtain ⟨D, n, rs, ks, wd, rfl, ⟨T, N, us, ws, hD, hT, hu, hN, hw⟩, hn, hk, n0, n1, hl, hQ⟩ := h
  refine ⟨_, (PSs.nox (pss_cons (ps_setLc (i := 2) (own := [("_law_place", 3), ("_law_note", 4)]) (g := (gTup _ 2 (gCons (gName 3) (gCons (gName 4) gNil)))) (tt := tYes) (by rfl) sc__law_blocks.nd rfl rfl (sw_true rfl rfl rfl (by decide +kernel)) (pi_list (pe_dget (hu_of hr) (pv 0) pe_str (fun _ _ => rfl))) (blkOk_by (own := [("_law_place", 3), ("_law_note", 4)]) (N := n__law_blocks) (sc := defScope s__law_blocks) (by decide +kernel)) (fun _ _ _ _ _ => (pg_tup rfl (pgs_cons (pg_name (i := 3) sc__law_blocks.nd rfl (Or.inl rfl)) (pgs_cons (pg_name (i := 4) sc__law_blocks.nd rfl (Or.inl rfl)) pgs_nil)))) (fun _ _ _ _ _ => pts_nil) (fun _ _ _ _ _ => (pe_tup (pa_cons (pv 3) (pa_cons (pv 3) (pa_cons pe_int (pa_cons pe_bl (pa_cons (pe_op op_mul pe_int (pv 4)) (pa_cons pe_bl pa_nil)))))))))
    (pss_one (ps_ret (pe_disp (pps_cons pe_str (pe_op op_mul (pe_dget (hu_of hr) (pv 0) pe_str (fun _ _ => rfl)) (pv 1)) (pps_cons pe_str (pe_callF (ok__law_block_rows c) (hr.mono (by decide)) rfl (g__law_block_rows c) (pa_cons (pe_op op_cat (pe_dget (hu_of hr) (pv 0) pe_str (fun _ _ => rfl)) (pv 2)) (pa_cons (pv 1) pa_nil))) (pps_cons pe_str (pe_lst pa_nil) pps_nil))) (by rfl) (by rfl) (List.cons_ne_nil _ _) (by decide)))))), ?_⟩
  have hlw := pair_len hw
  have hlu := pair_len hu
  refine ⟨_, rfl, D, _, rfl, dg_notes hD, N, rfl, ⟨_, .of hN⟩, fun L nL => ?_⟩
  refine lc_it (walk_list (xs := ws)) (fun i H' => ∃ acc, H' L = some (.lst acc) ∧ Paired (RowAt H') acc ((ks.map Lad.pinRow).take i) ∧ Same H H') ⟨[], upd_same, .nil, same_upd nL⟩ (fun i H' _ ⟨_, _, _, s⟩ => SqL.of (K := K) (s _ _ hN)) (fun i x H1 H2 hi q hy => ?_) (fun H1 q => ?_)
  · obtain ⟨acc, hL, pa, s1⟩ := q
    obtain ⟨rfl, hy⟩ := hy
    obtain ⟨k, hk1, hkn⟩ := pair_get hw hy
    obtain ⟨pk, rfl, hpk⟩ := hkn.tu (Tu.of s1)
    have hla := pair_len pa
    rw [List.length_take, List.length_map] at hla
    refine ⟨pk, _, rfl, .of hpk, rfl, _, _, rfl, _, _, rfl, rfl, rfl, _, rfl, _, rfl, _, rfl, _, _, rfl, rfl, .inl ⟨by decide, by decide⟩, by show 6 ≤ sizeLine; decide, fun p np => ?_⟩
    have sp := same_upd (o := .tup [V.int k.1, V.int k.1, V.int 1, V.bl true, V.int (2 * k.2), V.bl false]) np
    have xs := Xs.lst (ys := acc ++ [V.ref p]) (sp _ _ hL)
    have tu := (Tu.of sp).trans (Tu.xs xs)
    refine ⟨acc, sp _ _ hL, lt_line (by omega), acc ++ [V.ref p], upd_same, ?_, same_set (s1.trans sp) nL⟩
    rw [List.take_add_one, List.getElem?_map, hk1]
    refine pair_app (pair_mono pa fun _ _ y => y.tu tu) (.cons ⟨p, rfl, ?_⟩ .nil)
    exact Tu.xs xs _ _ upd_same
  · obtain ⟨acc, hL, pa, s1⟩ := q
    rw [List.take_of_length_le (by rw [List.length_map]; omega)] at pa
    have hla := pair_len pa
    rw [List.length_map] at hla
    intro z nz
    have sz := s1.trans (same_upd nz (o := .dK []))
    have hLz := same_upd nz (o := .dK []) _ _ hL
    have hz := @upd_same H1 z (.dK [])
    have paz := pair_mono pa fun _ _ y => y.tu (Tu.of (same_upd nz (o := .dK [])))
    revert sz hLz hz paz
    generalize upd H1 z (.dK []) = H2
    intro sz hLz hz paz
    have huz := pair_mono hu fun _ _ y => y.tu (Tu.of sz)
    refine ⟨_, rfl, D, _, rfl, dg_size (sz _ _ hD), _, rfl, _, _, rfl, rfl, .inl ⟨by omega, by omega⟩, ?_⟩
    refine ⟨_, rfl, D, _, rfl, dg_ties (sz _ _ hD), _, rfl, T, L, us, acc, rfl, rfl, sz _ _ hT, hLz, line_big (by omega), fun l nl => ?_⟩
    have sl := same_upd nl (o := .lst (us ++ acc))
    refine ⟨_, rfl, l, us ++ acc, Lad.allRows rs ks, wd, rfl, upd_same, pair_app (pair_mono huz fun _ _ y => y.tu (Tu.of sl)) (pair_mono paz fun _ _ y => y.tu (Tu.of sl)), ?_, hl, fun B accB H5 s5 nB hB pB => ?_⟩
    · unfold Lad.allRows
      rw [List.length_append, List.length_map]
      omega
    · refine ⟨Nat.zero_le _, fun e ne => ?_⟩
      have se := same_upd ne (o := .lst [])
      refine ⟨se _ _ (s5 _ _ (sl _ _ hz)), [(.inr "size", V.int (n * wd)), (.inr "ties", V.ref B), (.inr "notes", V.ref e)], rfl, (show 3 ≤ 15 by decide), ?_⟩
      rw [lore_mk]
      have nzH : H z = none := s1.free nz
      have sAll : Same H (upd (upd H5 e (.lst [])) z (.dK (loreK (n * wd) B e))) := same_set (sz.trans (sl.trans (s5.trans se))) nzH
      have nBz : B ≠ z := ne_of hB (s5 _ _ (sl _ _ hz)) (by intro q; cases q)
      have nez : e ≠ z := fun q => by
        rw [q, s5 _ _ (sl _ _ hz)] at ne
        cases ne
      have tu : Tu H5 (upd (upd H5 e (.lst [])) z (.dK (loreK (n * wd) B e))) := (Tu.of se).trans fun q us e' => by
        rw [upd_ne (ne_of e' (se _ _ (s5 _ _ (sl _ _ hz))) (by intro q; cases q))]
        exact e'
      exact hQ z _ sAll ⟨B, e, accB, [], upd_same, by rw [upd_ne nBz]; exact se _ _ hB, pair_mono pB fun _ _ y => y.tu tu, by rw [upd_ne nez]; exact upd_same, .nil⟩
end
end TT

-- W27
set_option Elab.async false
set_option linter.all false
set_option maxRecDepth 100000
set_option maxHeartbeats 4000000
namespace TT
open PySem PySem.Spec PyProof.Rows L2 SX TL
theorem cat_S (a b : List Nat) : S a ++ S b = S (a ++ b) := by
  refine ext_tl ?_
  show ((S a).cps ++ (S b).cps).toList = _
  rw [Array.toList_append]
theorem k_tie_ : (Str.ofString "tie ") = S [116, 105, 101, 32] := by decide +kernel
theorem k_size_ : (Str.ofString "size ") = S [115, 105, 122, 101, 32] := by decide +kernel
theorem rowS_len {r : Lad.Row} (h : RowS r) : (joinL [32] (rw6 r)).length ≤ 4000 := by
  have q := joinL_len (sep := [32]) (m := 640) (rw6_len h)
  have : (rw6 r).length ≤ 6 := rowW_n
  refine Nat.le_trans q ?_
  show _ * 641 ≤ 4000
  omega
theorem tieS_len {r : Lad.Row} (h : RowS r) : (tieL r).length ≤ 5000 := by
  have := rowS_len h
  rw [tieL_eq, List.length_append]
  show 4 + _ ≤ 5000
  omega
theorem sizeS_len {n : Int} (h : n.natAbs < 10 ^ 100) : (sizeL n).length ≤ 5000 := by
  have := intL_len (lt_600 h)
  show ([115, 105, 122, 101] ++ ([32] ++ intL n)).length ≤ 5000
  rw [List.length_append, List.length_append]
  show 4 + (1 + _) ≤ 5000
  omega
section
variable {P : Program} {w : World} {K : Fg} {mg : Str → Option Value} {base : Heap}
abbrev n__law_book_text : List Str := ["_law_lore_here", "_law_lines", "_law_row", "_law_place", "_law_note"]
abbrev pr__law_book_text : List Str := ["_law_lore_here"]
theorem sc__law_book_text : FnScope n__law_book_text pr__law_book_text (defScope s__law_book_text) := ⟨rfl, rfl, rfl, by decide +kernel, rfl, by decide +kernel, by decide +kernel⟩

def spBookText : Sp := fun vs H Q _ => ∃ (D : Addr) (n : Int) (rs : List Lad.Row), vs = [V.ref D] ∧ LoreAt H D n rs [] ∧ rs.length ≤ 20 ∧ n.natAbs < 10 ^ 100 ∧ (∀ r ∈ rs, RowS r) ∧
  ∀ H', Same H H' → Q (V.str (S (bookL n rs))) H'
theorem ok__law_book_text (c : Env K mg) : Pm P w K mg base 2 (d__law_book_text.at_ K) spBookText := by
  obtain ⟨fd, F⟩ := fd__law_book_text c
  refine .mk0 (F.ok sc__law_book_text (ps := pr__law_book_text) (by intro vs H Q E h; obtain ⟨_, _, _, rfl, _⟩ := h; rfl) fun cdv A0 outer s0 H vs Q E hr h => ?_) (FunD.bindsN F fun _ _ _ _ _ _ us hl => match us, hl with | [_], _ => rfl) F.kp
  obtain ⟨D, n, rs, rfl, ⟨T, N, us, ws, hD, hT, hu, hN, hw⟩, hn, hnb, hl, hQ⟩ := h
  cases hw
  have hlu := pair_len hu
  refine ⟨_, (PSs.nox (pss_cons (ps_set (i := 1) sc__law_book_text.nd rfl (Or.inl rfl) (pe_op op_cat (pe_lst (pa_cons (pe_op op_add_str pe_str (pe_callTy call_str_int (by rfl) (f_str c) (by decide +kernel) (pa_cons (pe_dget (hu_of hr) (pv 0) pe_str (fun _ _ => rfl)) pa_nil))) pa_nil)) (pe_lc (own := [("_law_row", 2)]) (g := (gName 2)) (tt := tYes) (by rfl) sc__law_book_text.nd (pi_list (pe_dget (hu_of hr) (pv 0) pe_str (fun _ _ => rfl))) (blkOk_by (own := [("_law_row", 2)]) (N := n__law_book_text) (sc := defScope s__law_book_text) (by decide +kernel)) (fun _ _ _ _ _ => (pg_name (i := 2) sc__law_book_text.nd rfl (Or.inl rfl))) (fun _ _ _ _ _ => pts_nil) (fun _ _ _ _ _ => (pe_op op_add_str pe_str (pe_callF (ok__law_tie_text c) (hr.mono (by decide)) rfl (g__law_tie_text c) (pa_cons (pv 2) pa_nil)))))))
    (pss_one (ps_ret (pe_join pe_str (pe_op op_cat (pv 1) (pe_lc (own := [("_law_place", 3), ("_law_note", 4)]) (g := (gTup _ 2 (gCons (gName 3) (gCons (gName 4) gNil)))) (tt := tYes) (by rfl) sc__law_book_text.nd (pi_list (pe_dget (hu_of hr) (pv 0) pe_str (fun _ _ => rfl))) (blkOk_by (own := [("_law_place", 3), ("_law_note", 4)]) (N := n__law_book_text) (sc := defScope s__law_book_text) (by decide +kernel)) (fun _ _ _ _ _ => (pg_tup rfl (pgs_cons (pg_name (i := 3) sc__law_book_text.nd rfl (Or.inl rfl)) (pgs_cons (pg_name (i := 4) sc__law_book_text.nd rfl (Or.inl rfl)) pgs_nil)))) (fun _ _ _ _ _ => pts_nil) (fun _ _ _ _ _ => (pe_op op_add_str (pe_op op_add_str (pe_op op_add_str pe_str (pe_callTy call_str_int (by rfl) (f_str c) (by decide +kernel) (pa_cons (pv 3) pa_nil))) pe_str) (pe_callTy call_str_int (by rfl) (f_str c) (by decide +kernel) (pa_cons (pv 4) pa_nil))))))))))), ?_⟩
  refine ⟨_, rfl, D, _, rfl, dg_size hD, _, rfl, log_small hnb, _, _, rfl, rfl, ?_, ?_⟩
  · rw [k_size_, str_S, S_len, S_len]
    have := intL_len (lt_600 hnb)
    exact line_big (by show 5 + _ ≤ 100000; omega)
  refine ⟨by show 1 ≤ sizeLine; decide, fun p np => ?_⟩
  have sp := same_upd np (o := .lst [V.str (Str.ofString "size " ++ toString n)])
  have hp : (upd H p (.lst [V.str (Str.ofString "size " ++ toString n)])) p = some (.lst [V.str (S (sizeL n))]) := by
    rw [upd_same, k_size_, str_S, cat_S]
    rfl
  revert sp hp
  generalize upd H p (.lst [V.str (Str.ofString "size " ++ toString n)]) = H1
  intro sp hp
  refine ⟨_, rfl, D, _, rfl, dg_ties (sp _ _ hD), T, rfl, ⟨_, .of (sp _ _ hT)⟩, fun L nL => ?_⟩
  refine lc_it (walk_list (xs := us)) (fun i H' => H' L = some (.lst ((((rs.map tieL).map S).map V.str).take i)) ∧ Same H1 H') ⟨upd_same, same_upd nL⟩ (fun i H' _ q => SqL.of (K := K) (q.2 _ _ (sp _ _ hT))) (fun i x H2 H3 hi q hy => ?_) (fun H2 q => ?_)
  · obtain ⟨hL, s1⟩ := q
    obtain ⟨rfl, hy⟩ := hy
    obtain ⟨r, hr1, hrow⟩ := pair_get hu hy
    have hsm := hl r (List.mem_of_getElem? hr1)
    refine ⟨rfl, _, rfl, x, r, rfl, hrow.tu (Tu.of (sp.trans s1)), hsm, fun H4 s4 => ?_⟩
    have e : S (tieL r) = Str.ofString "tie " ++ S (joinL [32] (rw6 r)) := by rw [k_tie_, cat_S, tieL_eq]; rfl
    refine ⟨_, _, rfl, rfl, ?_, ?_⟩
    · have h1 := rowS_len hsm
      rw [k_tie_, S_len, S_len]
      exact line_big (by show 4 + _ ≤ 100000; omega)
    · rw [← e]
      refine ⟨_, s4 _ _ hL, lt_line (by rw [List.length_take, List.length_map, List.length_map, List.length_map]; omega), ?_, same_set (s1.trans s4) nL⟩
      rw [upd_same, List.take_add_one, List.getElem?_map, List.getElem?_map, List.getElem?_map, hr1]
      rfl
  · obtain ⟨hL, s1⟩ := q
    rw [List.take_of_length_le (by rw [List.length_map, List.length_map, List.length_map]; omega)] at hL
    refine ⟨p, L, _, _, rfl, rfl, s1 _ _ hp, hL, by rw [List.length_map, List.length_map, List.length_map]; exact line_big (by show 1 + _ ≤ 100000; omega), fun l nl => ?_⟩
    have sl := same_upd nl (o := .lst ([V.str (S (sizeL n))] ++ ((rs.map tieL).map S).map V.str))
    have hl1 := @upd_same H2 l (.lst ([V.str (S (sizeL n))] ++ ((rs.map tieL).map S).map V.str))
    have s2 := sp.trans (s1.trans sl)
    revert s2 hl1
    generalize upd H2 l (.lst ([V.str (S (sizeL n))] ++ ((rs.map tieL).map S).map V.str)) = H3
    intro hl1 s2
    refine ⟨⟨_, rfl⟩, _, rfl, ?_⟩
    refine ⟨_, rfl, D, _, rfl, dg_notes (s2 _ _ hD), N, rfl, ⟨_, .of (s2 _ _ hN)⟩, fun L2' nL2 => ?_⟩
    refine lc_it (walk_list (xs := [])) (fun i H' => H' = upd H3 L2' (.lst [])) rfl (fun i H' _ q => by rw [q]; exact SqL.of (K := K) (same_upd nL2 _ _ (s2 _ _ hN))) (fun i x H4 H5 hi q hy => absurd hi (Nat.not_lt_zero _)) (fun H4 q => ?_)
    subst q
    have s3 := same_upd nL2 (o := .lst [])
    refine ⟨l, L2', _, _, rfl, rfl, s3 _ _ hl1, upd_same, by rw [List.length_append, List.length_map, List.length_map, List.length_map]; exact line_big (by show 1 + _ + 0 ≤ 100000; omega), fun l3 n3 => ?_⟩
    refine ⟨_, l3, (sizeL n :: rs.map tieL).map S, rfl, rfl, .inl (.of (by rw [upd_same, List.append_nil]; rfl)), ?_, ?_⟩
    · have h1 := sum_len (m := 5000) (ps := sizeL n :: rs.map tieL) (fun q hq => by
        rcases List.mem_cons.mp hq with rfl | hq
        · exact sizeS_len hnb
        · obtain ⟨r, hr', rfl⟩ := List.mem_map.mp hq
          exact tieS_len (hl r hr'))
      rw [List.length_cons, List.length_map] at h1
      rw [List.length_map, List.length_cons, List.length_map, k_feed, S_len]
      show _ + _ * 1 ≤ _
      omega
    · rw [k_feed, join_S]
      exact hQ _ (s2.trans (s3.trans (same_upd n3)))
end
end TT

-- W28
set_option Elab.async false
set_option linter.all false
set_option maxRecDepth 100000
set_option maxHeartbeats 4000000
namespace TT
open PySem PySem.Spec PyProof.Rows L2 SX TL
/-- a dict of places, to answers -/
def FndAt (H : Hp) (D : Addr) (F : Lad.Found) : Prop := ∃ kvs, H D = some (.dK kvs) ∧ kvs.length ≤ 5000 ∧ ∀ p : Int, match valV kvs (.inl p) with
  | none => F.lookup p = none
  | some v => ∃ a, F.lookup p = some a ∧ AnsAt H v a
theorem FndAt.get {H : Hp} {D : Addr} {F : Lad.Found} (h : FndAt H D F) (p : Int) : ∃ o, DGet H D (V.int p) o ∧ match o with
    | none => F.lookup p = none
    | some v => ∃ a, F.lookup p = some a ∧ AnsAt H v a := by
  obtain ⟨kvs, e, _, q⟩ := h
  exact ⟨_, DGet.k (k := .inl p) e, q p⟩
theorem FndAt.mono {H H' : Hp} {D : Addr} {F : Lad.Found} (h : FndAt H D F) (s : Same H H') : FndAt H' D F := by
  obtain ⟨kvs, e, l, q⟩ := h
  refine ⟨kvs, s _ _ e, l, fun p => ?_⟩
  have := q p
  cases hv : valV kvs (.inl p) with
  | none => rw [hv] at this; exact this
  | some v =>
    rw [hv] at this
    obtain ⟨a, h1, h2⟩ := this
    exact ⟨a, h1, h2.tu (Tu.of s)⟩
section
variable {P : Program} {w : World} {K : Fg} {mg : Str → Option Value} {base : Heap}
abbrev n__law_at : List Str := ["_law_found_here", "_law_place"]
abbrev pr__law_at : List Str := ["_law_found_here", "_law_place"]
theorem sc__law_at : FnScope n__law_at pr__law_at (defScope s__law_at) := ⟨rfl, rfl, rfl, by decide +kernel, rfl, by decide +kernel, by decide +kernel⟩

def spAt : Sp := fun vs H Q _ => ∃ D F p, vs = [V.ref D, V.int p] ∧ FndAt H D F ∧ ∀ v H', Same H H' → AnsAt H' v ((F.lookup p).getD (.hang false p 0)) → Q v H'
theorem ok__law_at (c : Env K mg) : Pm P w K mg base 1 (d__law_at.at_ K) spAt := by
  obtain ⟨fd, F⟩ := fd__law_at c
  refine .mk0 (F.ok sc__law_at (ps := pr__law_at) (by intro vs H Q E h; obtain ⟨_, _, _, rfl, _⟩ := h; rfl) fun cdv A0 outer s0 H vs Q E hr h => ?_) (FunD.bindsN F fun _ _ _ _ _ _ us hl => match us, hl with | [_, _], _ => rfl) F.kp
  obtain ⟨D, Fo, p, rfl, hF, hQ⟩ := h
  refine ⟨_, (PSs.nox (pss_one (ps_ret (pe_dget2 (hu_of hr) (pv 0) (pv 1) (pe_tup (pa_cons pe_str (pa_cons (pv 1) (pa_cons pe_int pa_nil)))) ⟨rfl, rfl, rfl, rfl⟩)))), ?_⟩
  obtain ⟨kvs, hD, _, _⟩ := id hF
  refine ⟨_, rfl, D, rfl, .inl ⟨_, .inl hD⟩, _, rfl, _, rfl, by show 3 ≤ sizeLine; decide, fun q nq => ?_⟩
  have s1 := same_upd nq (o := .tup [V.str (Str.ofString "up"), V.int p, V.int 0])
  obtain ⟨o, g, m⟩ := (hF.mono s1).get p
  refine ⟨o, g, ?_⟩
  cases o with
  | none =>
    rw [show Fo.lookup p = none from m] at hQ
    exact hQ _ _ s1 ⟨q, rfl, upd_same⟩
  | some v =>
    obtain ⟨a, e, ha⟩ := m
    rw [e] at hQ
    exact hQ _ _ s1 ha
abbrev n__law_beginning : List Str := ["_law_row", "_law_lots", "_law_second"]
abbrev pr__law_beginning : List Str := ["_law_row", "_law_lots"]
theorem sc__law_beginning : FnScope n__law_beginning pr__law_beginning (defScope s__law_beginning) := ⟨rfl, rfl, rfl, by decide +kernel, rfl, by decide +kernel, by decide +kernel⟩

def beginR (r : Lad.Row) (k : Int) : Lad.Row := ⟨r.f, if r.b then r.s + r.l - k else r.s, k, r.d, r.a, r.b && decide (1 < k)⟩
def spBegin : Sp := fun vs H Q _ => ∃ v r k, vs = [v, V.int k] ∧ RowAt H v r ∧ ∀ u H', Same H H' → RowAt H' u (beginR r k) → Q u H'
theorem ok__law_beginning (c : Env K mg) : Pm P w K mg base 1 (d__law_beginning.at_ K) spBegin := by
  obtain ⟨fd, F⟩ := fd__law_beginning c
  refine .mk0 (F.ok sc__law_beginning (ps := pr__law_beginning) (by intro vs H Q E h; obtain ⟨_, _, _, rfl, _⟩ := h; rfl) fun cdv A0 outer s0 H vs Q E hr h => ?_) (FunD.bindsN F fun _ _ _ _ _ _ us hl => match us, hl with | [_, _], _ => rfl) F.kp
  obtain ⟨v, r, k, rfl, ⟨p, rfl, hp⟩, hQ⟩ := h
  refine ⟨_, (PSs.nox (pss_cons (ps_set (i := 2) sc__law_beginning.nd rfl (Or.inl rfl) (pe_ifExp (pt_val (pe_ix ix_tup (pv 0) pe_int (fun _ _ => rfl))) (pe_op op_sub (pe_op op_add (pe_ix ix_tup (pv 0) pe_int (fun _ _ => rfl)) (pe_ix ix_tup (pv 0) pe_int (fun _ _ => rfl))) (pv 1)) (pe_ix ix_tup (pv 0) pe_int (fun _ _ => rfl))))
    (pss_one (ps_ret (pe_tup (pa_cons (pe_ix ix_tup (pv 0) pe_int (fun _ _ => rfl)) (pa_cons (pv 2) (pa_cons (pv 1) (pa_cons (pe_ix ix_tup (pv 0) pe_int (fun _ _ => rfl)) (pa_cons (pe_ix ix_tup (pv 0) pe_int (fun _ _ => rfl)) (pa_cons (pe_and (pe_ix ix_tup (pv 0) pe_int (fun _ _ => rfl)) (pe_one (pe_cmpR op_gt (pv 1) pe_int (nomark _)))) pa_nil))))))))))), ?_⟩
  have br : ∀ {c : Bool} {A B : Prop}, (c = true → A) → (c = false → B) → (if c = true then A else B) := fun {c A B} h1 h2 => by
    cases c
    · exact h2 rfl
    · exact h1 rfl
  have fin : ∀ (s : Int) (b : Bool), s = (beginR r k).s → b = (beginR r k).b → ∀ q, H q = none → Q (V.ref q) (upd H q (.tup [V.int r.f, V.int s, V.int k, V.bl r.d, V.int r.a, V.bl b])) := fun s b hs hb q nq => by
    refine hQ _ _ (same_upd nq) ⟨q, rfl, ?_⟩
    rw [upd_same, hs, hb]
    rfl
  refine ⟨_, rfl, p, _, _, _, rfl, rfl, .of hp, rfl, _, rfl, br (fun hb => ?_) (fun hb => ?_)⟩
  · refine ⟨_, rfl, p, _, _, _, rfl, rfl, .of hp, rfl, _, rfl, p, _, _, _, rfl, rfl, .of hp, rfl, _, _, rfl, rfl, _, rfl, _, _, rfl, rfl, ?_⟩
    refine ⟨_, rfl, p, _, _, _, rfl, rfl, .of hp, rfl, _, rfl, _, rfl, _, rfl, p, _, _, _, rfl, rfl, .of hp, rfl, _, rfl, p, _, _, _, rfl, rfl, .of hp, rfl, _, rfl, p, _, _, _, rfl, rfl, .of hp, rfl, ?_⟩
    refine ⟨_, rfl, br (fun _ => ?_) (fun h => by rw [hb] at h; cases h)⟩
    refine ⟨_, rfl, _, _, rfl, rfl, by show 6 ≤ sizeLine; decide, fun q nq => fin _ _ ?_ ?_ q nq⟩
    · unfold beginR; simp only; rw [if_pos hb]
    · unfold beginR; simp only; rw [hb, Bool.true_and]
  · refine ⟨_, rfl, p, _, _, _, rfl, rfl, .of hp, rfl, ?_⟩
    refine ⟨_, rfl, p, _, _, _, rfl, rfl, .of hp, rfl, _, rfl, _, rfl, _, rfl, p, _, _, _, rfl, rfl, .of hp, rfl, _, rfl, p, _, _, _, rfl, rfl, .of hp, rfl, _, rfl, p, _, _, _, rfl, rfl, .of hp, rfl, ?_⟩
    refine ⟨_, rfl, br (fun h => by rw [hb] at h; cases h) (fun _ => ?_)⟩
    refine ⟨by show 6 ≤ sizeLine; decide, fun q nq => fin _ _ ?_ ?_ q nq⟩
    · unfold beginR; simp only; rw [hb]; rfl
    · unfold beginR; simp only; rw [hb]; rfl
theorem wt (d : Bool) : decide (V.str (if d then "down" else "up") = V.str "told") = false := by cases d <;> decide +kernel
theorem ww (d e : Bool) : decide (V.str (if d then "down" else "up") = V.str (if e then "down" else "up")) = decide (d = e) := by cases d <;> cases e <;> decide +kernel
theorem tt_ : decide (V.str "told" = V.str "told") = true := by decide +kernel
theorem in1 (d : Bool) : inV (V.str "told") [V.str "told", V.str (if d then "down" else "up")] = true := by cases d <;> decide +kernel
theorem in2 (d : Bool) : inV (V.str "told") [V.str (if d then "down" else "up"), V.str "told"] = true := by cases d <;> decide +kernel
theorem in3 (d e : Bool) : inV (V.str "told") [V.str (if d then "down" else "up"), V.str (if e then "down" else "up")] = false := by cases d <;> cases e <;> decide +kernel
abbrev n__law_between : List Str := ["_law_one", "_law_other"]
abbrev pr__law_between : List Str := ["_law_one", "_law_other"]
theorem sc__law_between : FnScope n__law_between pr__law_between (defScope s__law_between) := ⟨rfl, rfl, rfl, by decide +kernel, rfl, by decide +kernel, by decide +kernel⟩

def BtAt (H : Hp) (v : V) : Option (Bool × Int) → Prop
  | none => ∃ p, v = V.ref p ∧ H p = some (.tup [V.str "open"])
  | some k => ∃ p, v = V.ref p ∧ H p = some (.tup [V.str (if k.1 then "down" else "up"), V.int k.2])
def spBetweenL : Sp := fun vs H Q _ => ∃ u v a b, vs = [u, v] ∧ AnsAt H u a ∧ AnsAt H v b ∧ ∀ r bt H', Same H H' → BtAt H' r bt → (∀ k, bt = some k → k.2.natAbs ≤ Lad.absA a + Lad.absA b) → Q r H'
theorem ok__law_between (c : Env K mg) : Pm P w K mg base 1 (d__law_between.at_ K) spBetweenL := by
  obtain ⟨fd, F⟩ := fd__law_between c
  refine .mk0 (F.ok sc__law_between (ps := pr__law_between) (by intro vs H Q E h; obtain ⟨_, _, _, _, rfl, _⟩ := h; rfl) fun cdv A0 outer s0 H vs Q E hr h => ?_) (FunD.bindsN F fun _ _ _ _ _ _ us hl => match us, hl with | [_, _], _ => rfl) F.kp
  obtain ⟨u, v, a, b, rfl, ha, hb, hQ⟩ := h
  refine ⟨_, (PSs.nox (pss_cons (ps_if (PW.pt (pw_and (pt_cmpR op_eq (pe_ix ix_tup (pv 0) pe_int (fun _ _ => rfl)) pe_str (nomark _)) (pw_and1 (pt_cmpR op_eq (pe_ix ix_tup (pv 1) pe_int (fun _ _ => rfl)) pe_str (nomark _))))) (pss_one (ps_ret (pe_tup (pa_cons pe_str (pa_cons (pe_op op_sub (pe_ix ix_tup (pv 1) pe_int (fun _ _ => rfl)) (pe_ix ix_tup (pv 0) pe_int (fun _ _ => rfl))) pa_nil))))) pss_nil)
    (pss_cons (ps_if (PW.pt (pw_or (pt_cmpR op_in_seq pe_str (pe_tup (pa_cons (pe_ix ix_tup (pv 0) pe_int (fun _ _ => rfl)) (pa_cons (pe_ix ix_tup (pv 1) pe_int (fun _ _ => rfl)) pa_nil))) (by rfl)) (pw_or1 (pt_cmpR op_ne (pe_ix ix_tup (pv 0) pe_int (fun _ _ => rfl)) (pe_ix ix_tup (pv 1) pe_int (fun _ _ => rfl)) (nomark _))))) (pss_one (ps_ret (pe_tup (pa_cons pe_str pa_nil)))) pss_nil)
    (pss_one (ps_ret (pe_ifExp (pt_cmpR op_eq (pe_ix ix_tup (pv 0) pe_int (fun _ _ => rfl)) (pe_ix ix_tup (pv 1) pe_int (fun _ _ => rfl)) (nomark _)) (pe_tup (pa_cons pe_str (pa_cons (pe_op op_sub (pe_ix ix_tup (pv 1) pe_int (fun _ _ => rfl)) (pe_ix ix_tup (pv 0) pe_int (fun _ _ => rfl))) pa_nil))) (pe_tup (pa_cons pe_str (pa_cons (pe_op op_add (pe_ix ix_tup (pv 1) pe_int (fun _ _ => rfl)) (pe_ix ix_tup (pv 0) pe_int (fun _ _ => rfl))) pa_nil))))))))), ?_⟩
  cases a with
  | told m =>
    obtain ⟨p, rfl, hp⟩ := ha
    cases b with
    | told k =>
      obtain ⟨q, rfl, hq⟩ := hb
      refine ⟨_, rfl, p, _, _, _, rfl, rfl, .of hp, rfl, rfl, _, rfl, ifY tt_ ?_⟩
      refine ⟨_, rfl, q, _, _, _, rfl, rfl, .of hq, rfl, rfl, _, rfl, ifY tt_ ?_⟩
      refine ⟨_, rfl, q, _, _, _, rfl, rfl, .of hq, rfl, _, rfl, p, _, _, _, rfl, rfl, .of hp, rfl, _, _, rfl, rfl, by show 2 ≤ sizeLine; decide, fun z nz => ?_⟩
      refine hQ _ (some (false, k - m)) _ (same_upd nz) ⟨z, rfl, upd_same⟩ fun k' e => ?_
      cases e
      show (k - m).natAbs ≤ m.natAbs + k.natAbs
      omega
    | hang d r x =>
      obtain ⟨q, rfl, hq⟩ := hb
      refine ⟨_, rfl, p, _, _, _, rfl, rfl, .of hp, rfl, rfl, _, rfl, ifY tt_ ?_⟩
      refine ⟨_, rfl, q, _, _, _, rfl, rfl, .of hq, rfl, rfl, _, rfl, ifN (wt d) ?_⟩
      refine ⟨_, rfl, p, _, _, _, rfl, rfl, .of hp, rfl, _, rfl, q, _, _, _, rfl, rfl, .of hq, rfl, by show 2 ≤ sizeLine; decide, fun z nz => ⟨z, _, rfl, .inr (.of upd_same), rfl, rfl, _, rfl, ifY (in1 d) ?_⟩⟩
      refine ⟨by show 1 ≤ sizeLine; decide, fun y ny => ?_⟩
      exact hQ _ none _ ((same_upd nz).trans (same_upd ny)) ⟨y, rfl, upd_same⟩ fun k' e => by cases e
  | hang d r x =>
    obtain ⟨p, rfl, hp⟩ := ha
    cases b with
    | told k =>
      obtain ⟨q, rfl, hq⟩ := hb
      refine ⟨_, rfl, p, _, _, _, rfl, rfl, .of hp, rfl, rfl, _, rfl, ifN (wt d) ?_⟩
      refine ⟨_, rfl, p, _, _, _, rfl, rfl, .of hp, rfl, _, rfl, q, _, _, _, rfl, rfl, .of hq, rfl, by show 2 ≤ sizeLine; decide, fun z nz => ⟨z, _, rfl, .inr (.of upd_same), rfl, rfl, _, rfl, ifY (in2 d) ?_⟩⟩
      refine ⟨by show 1 ≤ sizeLine; decide, fun y ny => ?_⟩
      exact hQ _ none _ ((same_upd nz).trans (same_upd ny)) ⟨y, rfl, upd_same⟩ fun k' e => by cases e
    | hang d' r' x' =>
      obtain ⟨q, rfl, hq⟩ := hb
      refine ⟨_, rfl, p, _, _, _, rfl, rfl, .of hp, rfl, rfl, _, rfl, ifN (wt d) ?_⟩
      refine ⟨_, rfl, p, _, _, _, rfl, rfl, .of hp, rfl, _, rfl, q, _, _, _, rfl, rfl, .of hq, rfl, by show 2 ≤ sizeLine; decide, fun z nz => ⟨z, _, rfl, .inr (.of upd_same), rfl, rfl, _, rfl, ifN (in3 d d') ?_⟩⟩
      have hp2 := same_upd nz (o := .tup [V.str (if d then "down" else "up"), V.str (if d' then "down" else "up")]) _ _ hp
      have hq2 := same_upd nz (o := .tup [V.str (if d then "down" else "up"), V.str (if d' then "down" else "up")]) _ _ hq
      have s2 := same_upd nz (o := .tup [V.str (if d then "down" else "up"), V.str (if d' then "down" else "up")])
      refine ⟨_, rfl, p, _, _, _, rfl, rfl, .of hp2, rfl, _, rfl, q, _, _, _, rfl, rfl, .of hq2, rfl, rfl, _, rfl, ?_⟩
      by_cases hr : r = r'
      · refine ifN (by rw [hr]; simp) ?_
        refine ⟨_, rfl, p, _, _, _, rfl, rfl, .of hp2, rfl, _, rfl, q, _, _, _, rfl, rfl, .of hq2, rfl, rfl, _, rfl, ?_⟩
        rw [ww]
        by_cases hd : d = d'
        · refine ifY (decide_eq_true hd) ?_
          refine ⟨_, rfl, q, _, _, _, rfl, rfl, .of hq2, rfl, _, rfl, p, _, _, _, rfl, rfl, .of hp2, rfl, _, _, rfl, rfl, by show 2 ≤ sizeLine; decide, fun y ny => ?_⟩
          refine hQ _ (some (false, x' - x)) _ (s2.trans (same_upd ny)) ⟨y, rfl, upd_same⟩ fun k' e => ?_
          cases e
          show (x' - x).natAbs ≤ x.natAbs + x'.natAbs
          omega
        · refine ifN (decide_eq_false hd) ?_
          refine ⟨_, rfl, q, _, _, _, rfl, rfl, .of hq2, rfl, _, rfl, p, _, _, _, rfl, rfl, .of hp2, rfl, _, _, rfl, rfl, by show 2 ≤ sizeLine; decide, fun y ny => ?_⟩
          refine hQ _ (some (true, x' + x)) _ (s2.trans (same_upd ny)) ⟨y, rfl, upd_same⟩ fun k' e => ?_
          cases e
          show (x' + x).natAbs ≤ x.natAbs + x'.natAbs
          omega
      · refine ifY (by rw [decide_eq_false (fun z => hr (V.int.inj z))]; rfl) ?_
        refine ⟨by show 1 ≤ sizeLine; decide, fun y ny => ?_⟩
        exact hQ _ none _ (s2.trans (same_upd ny)) ⟨y, rfl, upd_same⟩ fun k' e => by cases e
end
end TT

-- W29
set_option Elab.async false
set_option linter.all false
set_option maxRecDepth 100000
set_option maxHeartbeats 4000000
namespace TT
open PySem PySem.Spec PyProof.Rows L2 SX TL
theorem cut4 {a b d e f g : V} : cutV [a, b, d, e, f, g] none (some 4) = [a, b, d, e] := rfl
theorem not4 {a b d e f g : V} : ¬ (HT.sIx [a, b, d, e, f, g].length 0 none = 0 ∧ HT.sIx [a, b, d, e, f, g].length [a, b, d, e, f, g].length (some 4) = [a, b, d, e, f, g].length) := fun h => absurd h.2 (by show ¬ (min 4 6 = 6); decide)
theorem wo (d : Bool) : decide (V.str "open" = V.str (if d then "down" else "up")) = false := by cases d <;> decide +kernel
theorem wdn (d : Bool) : decide (V.str (if d then "down" else "up") = V.str "down") = d := by cases d <;> decide +kernel
theorem wup (d : Bool) : decide (V.str (if d then "down" else "up") = V.str "up") = !d := by cases d <;> decide +kernel
theorem od : decide (V.str "open" = V.str "down") = false := by decide +kernel
theorem ou : decide (V.str "open" = V.str "up") = false := by decide +kernel
section
variable {P : Program} {w : World} {K : Fg} {mg : Str → Option Value} {base : Heap}
abbrev n__law_wanted : List Str := ["_law_found_here", "_law_row", "_law_number", "_law_hung", "_law_one", "_law_other"]
abbrev pr__law_wanted : List Str := ["_law_found_here", "_law_row"]
theorem sc__law_wanted : FnScope n__law_wanted pr__law_wanted (defScope s__law_wanted) := ⟨rfl, rfl, rfl, by decide +kernel, rfl, by decide +kernel, by decide +kernel⟩

def withA (r : Lad.Row) (a : Int) : Lad.Row := ⟨r.f, r.s, r.l, r.d, a, r.b⟩
def spWanted : Sp := fun vs H Q _ => ∃ D F v r M B, vs = [V.ref D, v] ∧ FndAt H D F ∧ RowAt H v r ∧ 0 ≤ r.l ∧ r.l ≤ 50 ∧ (∀ p, Lad.absA ((F.lookup p).getD (.hang false p 0)) ≤ M) ∧ r.a.natAbs ≤ B ∧ 2 * M ≤ B ∧
  ∀ u a H', Same H H' → a.natAbs ≤ B → RowAt H' u (withA r a) → Q u H'
theorem ok__law_wanted (c : Env K mg) : Pm P w K mg base 2 (d__law_wanted.at_ K) spWanted := by
  obtain ⟨fd, F⟩ := fd__law_wanted c
  refine .mk0 (F.ok sc__law_wanted (ps := pr__law_wanted) (by intro vs H Q E h; obtain ⟨_, _, _, _, _, _, rfl, _⟩ := h; rfl) fun cdv A0 outer s0 H vs Q E hr h => ?_) (FunD.bindsN F fun _ _ _ _ _ _ us hl => match us, hl with | [_, _], _ => rfl) F.kp
  obtain ⟨D, Fo, v, r, M, B, rfl, hF, hrow, l0, l1, hM, hB, hMB, hQ⟩ := h
  obtain ⟨p, rfl, hp⟩ := id hrow
  refine ⟨_, (PSs.nox (pss_cons (ps_for PassesOwn.never rfl (pi_range1 rfl (f_range c) (pa_cons (pe_ix ix_tup (pv 1) pe_int (fun _ _ => rfl)) pa_nil)) (pg_name (i := 2) sc__law_wanted.nd rfl (Or.inl rfl))
    (pss_cons (ps_par (i := 4) (j := 5) (by rfl) sc__law_wanted.nd rfl rfl (by decide) rfl rfl (pa_cons (pe_callF (ok__law_at c) (hr.mono (by decide)) rfl (g__law_at c) (pa_cons (pv 0) (pa_cons (pe_op op_add (pe_ix ix_tup (pv 1) pe_int (fun _ _ => rfl)) (pv 2)) pa_nil))) (pa_cons (pe_callF (ok__law_at c) (hr.mono (by decide)) rfl (g__law_at c) (pa_cons (pv 0) (pa_cons (pe_callF (ok__law_partner c) (hr.mono (by decide)) rfl (g__law_partner c) (pa_cons (pv 1) (pa_cons (pv 2) pa_nil))) pa_nil))) pa_nil)) (by rfl))
    (pss_cons (ps_set (i := 3) sc__law_wanted.nd rfl (Or.inl rfl) (pe_callF (ok__law_between c) (hr.mono (by decide)) rfl (g__law_between c) (pa_cons (pv 4) (pa_cons (pv 5) pa_nil))))
    (pss_cons (ps_if (PW.pt (pw_and (pt_cmpR op_eq (pe_ix ix_tup (pv 4) pe_int (fun _ _ => rfl)) pe_str (nomark _)) (pw_and1 (pt_cmpR op_eq (pe_ix ix_tup (pv 5) pe_int (fun _ _ => rfl)) pe_str (nomark _))))) (pss_one (ps_ret (pe_op op_catT (pe_slice sl_tup (pv 1) po_none (po_some pe_int)) (pe_tup (pa_cons (pe_ifExp (pt_val (pe_ix ix_tup (pv 1) pe_int (fun _ _ => rfl))) (pe_op op_add (pe_ix ix_tup (pv 4) pe_int (fun _ _ => rfl)) (pe_ix ix_tup (pv 5) pe_int (fun _ _ => rfl))) (pe_op op_sub (pe_ix ix_tup (pv 5) pe_int (fun _ _ => rfl)) (pe_ix ix_tup (pv 4) pe_int (fun _ _ => rfl)))) (pa_cons (pe_ix ix_tup (pv 1) pe_int (fun _ _ => rfl)) pa_nil)))))) pss_nil)
    (pss_one (ps_if (pt_cmpR op_eq (pe_ix ix_tup (pv 3) pe_int (fun _ _ => rfl)) (pe_ifExp (pt_val (pe_ix ix_tup (pv 1) pe_int (fun _ _ => rfl))) pe_str pe_str) (nomark _)) (pss_one (ps_ret (pe_op op_catT (pe_slice sl_tup (pv 1) po_none (po_some pe_int)) (pe_tup (pa_cons (pe_ix ix_tup (pv 3) pe_int (fun _ _ => rfl)) (pa_cons (pe_ix ix_tup (pv 1) pe_int (fun _ _ => rfl)) pa_nil)))))) pss_nil))))))
    (pss_one (ps_ret (pv 1))))), ?_⟩
  have br : ∀ {c : Bool} {A B : Prop}, (c = true → A) → (c = false → B) → (if c = true then A else B) := fun {c A B} h1 h2 => by
    cases c
    · exact h2 rfl
    · exact h1 rfl
  refine ⟨_, rfl, p, _, _, _, rfl, rfl, .of hp, rfl, _, rfl, by omega, by omega, ?_⟩
  refine for_it walk_range (fun i σ H' => (∃ z2 z3 z4 z5, σ = [some (.ref D), some (.ref p), z2, z3, z4, z5]) ∧ Same H H') ⟨⟨_, _, _, _, rfl⟩, fun _ _ e => e⟩ (fun _ _ _ _ _ => trivial) (fun i x σ H1 H2 hi q hy => ?_) (fun σ H1 q => ?_)
  · obtain ⟨⟨z2, z3, z4, z5, rfl⟩, s1⟩ := q
    obtain ⟨rfl, rfl⟩ := hy
    have hp1 := s1 _ _ hp
    refine ⟨_, rfl, _, rfl, p, _, _, _, rfl, rfl, .of hp1, rfl, _, rfl, _, _, rfl, rfl, D, Fo, _, rfl, hF.mono s1, fun v1 H3 s3 a1 => ?_⟩
    have hp3 := s3 _ _ hp1
    refine ⟨_, rfl, _, rfl, _, rfl, _, r, _, rfl, ⟨p, rfl, hp3⟩, D, Fo, _, rfl, (hF.mono s1).mono s3, fun v2 H4 s4 a2 => ?_⟩
    have m1 := hM (r.f + (0 + (i : Int)))
    have m2 := hM (r.par (0 + (i : Int)))
    have a1' := a1.tu (Tu.of s4)
    revert a1' a2 m1 m2
    generalize (Fo.lookup (r.f + (0 + (i : Int)))).getD (.hang false (r.f + (0 + (i : Int))) 0) = A1
    generalize (Fo.lookup (r.par (0 + (i : Int)))).getD (.hang false (r.par (0 + (i : Int))) 0) = A2
    intro a2 m1 m2 a1'
    refine ⟨_, _, rfl, _, rfl, _, rfl, v1, v2, A1, A2, rfl, a1', a2, fun w0 bt H5 s5 hb kb => ?_⟩
    have s15 := s1.trans (s3.trans (s4.trans s5))
    have hp5 := s15 _ _ hp
    have b1 := a1'.tu (Tu.of s5)
    have b2 := a2.tu (Tu.of s5)
    cases A1 with
    | told m =>
      obtain ⟨q1, rfl, hq1⟩ := b1
      have m1 : m.natAbs ≤ M := m1
      cases A2 with
      | told k =>
        obtain ⟨q2, rfl, hq2⟩ := b2
        have m2 : k.natAbs ≤ M := m2
        refine ⟨_, rfl, q1, _, _, _, rfl, rfl, .of hq1, rfl, rfl, _, rfl, ifY tt_ ⟨_, rfl, q2, _, _, _, rfl, rfl, .of hq2, rfl, rfl, _, rfl, ifY tt_ ?_⟩⟩
        cases hd : r.d with
        | true =>
          refine ⟨_, rfl, _, rfl, p, _, rfl, .of hp5, not4, fun q nq => ?_⟩
          have sq := same_upd nq (o := .tup (cutV [V.int r.f, V.int r.s, V.int r.l, V.bl r.d, V.int r.a, V.bl r.b] none (some 4)))
          have hp6 := sq _ _ hp5
          refine ⟨_, rfl, p, _, _, _, rfl, rfl, .of hp6, rfl, _, rfl, ifY hd ⟨_, rfl, q1, _, _, _, rfl, rfl, .of (sq _ _ hq1), rfl, _, rfl, q2, _, _, _, rfl, rfl, .of (sq _ _ hq2), rfl, _, _, rfl, rfl, _, rfl, p, _, _, _, rfl, rfl, .of hp6, rfl, by show 2 ≤ sizeLine; decide, fun y ny => ?_⟩⟩
          have sy := same_upd ny (o := .tup [V.int (m + k), V.bl r.b])
          refine ⟨q, y, _, _, rfl, rfl, .of (sy _ _ upd_same), .of upd_same, List.cons_ne_nil _ _, by show 4 + 2 ≤ sizeLine; decide, fun h => by (cases h), fun _ z nz => ?_⟩
          exact hQ _ (m + k) _ (s15.trans (sq.trans (sy.trans (same_upd nz)))) (by omega) ⟨z, rfl, upd_same⟩
        | false =>
          refine ⟨_, rfl, _, rfl, p, _, rfl, .of hp5, not4, fun q nq => ?_⟩
          have sq := same_upd nq (o := .tup (cutV [V.int r.f, V.int r.s, V.int r.l, V.bl r.d, V.int r.a, V.bl r.b] none (some 4)))
          have hp6 := sq _ _ hp5
          refine ⟨_, rfl, p, _, _, _, rfl, rfl, .of hp6, rfl, _, rfl, ifN hd ⟨_, rfl, q2, _, _, _, rfl, rfl, .of (sq _ _ hq2), rfl, _, rfl, q1, _, _, _, rfl, rfl, .of (sq _ _ hq1), rfl, _, _, rfl, rfl, _, rfl, p, _, _, _, rfl, rfl, .of hp6, rfl, by show 2 ≤ sizeLine; decide, fun y ny => ?_⟩⟩
          have sy := same_upd ny (o := .tup [V.int (k - m), V.bl r.b])
          refine ⟨q, y, _, _, rfl, rfl, .of (sy _ _ upd_same), .of upd_same, List.cons_ne_nil _ _, by show 4 + 2 ≤ sizeLine; decide, fun h => by (cases h), fun _ z nz => ?_⟩
          exact hQ _ (k - m) _ (s15.trans (sq.trans (sy.trans (same_upd nz)))) (by omega) ⟨z, rfl, upd_same⟩
      | hang d2 r2 x2 =>
        obtain ⟨q2, rfl, hq2⟩ := b2
        refine ⟨_, rfl, q1, _, _, _, rfl, rfl, .of hq1, rfl, rfl, _, rfl, ifY tt_ ⟨_, rfl, q2, _, _, _, rfl, rfl, .of hq2, rfl, rfl, _, rfl, ifN (wt d2) ?_⟩⟩
        cases bt with
        | none =>
          obtain ⟨z0, rfl, hz⟩ := hb
          refine ⟨_, rfl, z0, _, _, _, rfl, rfl, .of hz, rfl, _, rfl, p, _, _, _, rfl, rfl, .of hp5, rfl, _, rfl, br (fun _ => ?_) (fun _ => ?_)⟩
          · exact ⟨rfl, _, rfl, ifN od ⟨⟨_, _, _, _, rfl⟩, s15⟩⟩
          · exact ⟨rfl, _, rfl, ifN ou ⟨⟨_, _, _, _, rfl⟩, s15⟩⟩
        | some kk =>
          obtain ⟨z0, rfl, hz⟩ := hb
          have hk := kb kk rfl
          refine ⟨_, rfl, z0, _, _, _, rfl, rfl, .of hz, rfl, _, rfl, p, _, _, _, rfl, rfl, .of hp5, rfl, _, rfl, br (fun _ => ⟨rfl, _, rfl, br (fun _ => ?_) (fun _ => ⟨⟨_, _, _, _, rfl⟩, s15⟩)⟩) (fun _ => ⟨rfl, _, rfl, br (fun _ => ?_) (fun _ => ⟨⟨_, _, _, _, rfl⟩, s15⟩)⟩)⟩
          · refine ⟨_, rfl, _, rfl, p, _, rfl, .of hp5, not4, fun q nq => ?_⟩
            have sq := same_upd nq (o := .tup (cutV [V.int r.f, V.int r.s, V.int r.l, V.bl r.d, V.int r.a, V.bl r.b] none (some 4)))
            have hp6 := sq _ _ hp5
            refine ⟨_, rfl, z0, _, _, _, rfl, rfl, .of (sq _ _ hz), rfl, _, rfl, p, _, _, _, rfl, rfl, .of hp6, rfl, by show 2 ≤ sizeLine; decide, fun y ny => ?_⟩
            have sy := same_upd ny (o := .tup [V.int kk.2, V.bl r.b])
            refine ⟨q, y, _, _, rfl, rfl, .of (sy _ _ upd_same), .of upd_same, List.cons_ne_nil _ _, by show 4 + 2 ≤ sizeLine; decide, fun h => by (cases h), fun _ z nz => ?_⟩
            exact hQ _ kk.2 _ (s15.trans (sq.trans (sy.trans (same_upd nz)))) (by omega) ⟨z, rfl, upd_same⟩
          · refine ⟨_, rfl, _, rfl, p, _, rfl, .of hp5, not4, fun q nq => ?_⟩
            have sq := same_upd nq (o := .tup (cutV [V.int r.f, V.int r.s, V.int r.l, V.bl r.d, V.int r.a, V.bl r.b] none (some 4)))
            have hp6 := sq _ _ hp5
            refine ⟨_, rfl, z0, _, _, _, rfl, rfl, .of (sq _ _ hz), rfl, _, rfl, p, _, _, _, rfl, rfl, .of hp6, rfl, by show 2 ≤ sizeLine; decide, fun y ny => ?_⟩
            have sy := same_upd ny (o := .tup [V.int kk.2, V.bl r.b])
            refine ⟨q, y, _, _, rfl, rfl, .of (sy _ _ upd_same), .of upd_same, List.cons_ne_nil _ _, by show 4 + 2 ≤ sizeLine; decide, fun h => by (cases h), fun _ z nz => ?_⟩
            exact hQ _ kk.2 _ (s15.trans (sq.trans (sy.trans (same_upd nz)))) (by omega) ⟨z, rfl, upd_same⟩
    | hang d1 r1 x1 =>
      obtain ⟨q1, rfl, hq1⟩ := b1
      refine ⟨_, rfl, q1, _, _, _, rfl, rfl, .of hq1, rfl, rfl, _, rfl, ifN (wt d1) ?_⟩
      cases bt with
      | none =>
        obtain ⟨z0, rfl, hz⟩ := hb
        refine ⟨_, rfl, z0, _, _, _, rfl, rfl, .of hz, rfl, _, rfl, p, _, _, _, rfl, rfl, .of hp5, rfl, _, rfl, br (fun _ => ?_) (fun _ => ?_)⟩
        · exact ⟨rfl, _, rfl, ifN od ⟨⟨_, _, _, _, rfl⟩, s15⟩⟩
        · exact ⟨rfl, _, rfl, ifN ou ⟨⟨_, _, _, _, rfl⟩, s15⟩⟩
      | some kk =>
        obtain ⟨z0, rfl, hz⟩ := hb
        have hk := kb kk rfl
        refine ⟨_, rfl, z0, _, _, _, rfl, rfl, .of hz, rfl, _, rfl, p, _, _, _, rfl, rfl, .of hp5, rfl, _, rfl, br (fun _ => ⟨rfl, _, rfl, br (fun _ => ?_) (fun _ => ⟨⟨_, _, _, _, rfl⟩, s15⟩)⟩) (fun _ => ⟨rfl, _, rfl, br (fun _ => ?_) (fun _ => ⟨⟨_, _, _, _, rfl⟩, s15⟩)⟩)⟩
        · refine ⟨_, rfl, _, rfl, p, _, rfl, .of hp5, not4, fun q nq => ?_⟩
          have sq := same_upd nq (o := .tup (cutV [V.int r.f, V.int r.s, V.int r.l, V.bl r.d, V.int r.a, V.bl r.b] none (some 4)))
          have hp6 := sq _ _ hp5
          refine ⟨_, rfl, z0, _, _, _, rfl, rfl, .of (sq _ _ hz), rfl, _, rfl, p, _, _, _, rfl, rfl, .of hp6, rfl, by show 2 ≤ sizeLine; decide, fun y ny => ?_⟩
          have sy := same_upd ny (o := .tup [V.int kk.2, V.bl r.b])
          refine ⟨q, y, _, _, rfl, rfl, .of (sy _ _ upd_same), .of upd_same, List.cons_ne_nil _ _, by show 4 + 2 ≤ sizeLine; decide, fun h => by (cases h), fun _ z nz => ?_⟩
          exact hQ _ kk.2 _ (s15.trans (sq.trans (sy.trans (same_upd nz)))) (by omega) ⟨z, rfl, upd_same⟩
        · refine ⟨_, rfl, _, rfl, p, _, rfl, .of hp5, not4, fun q nq => ?_⟩
          have sq := same_upd nq (o := .tup (cutV [V.int r.f, V.int r.s, V.int r.l, V.bl r.d, V.int r.a, V.bl r.b] none (some 4)))
          have hp6 := sq _ _ hp5
          refine ⟨_, rfl, z0, _, _, _, rfl, rfl, .of (sq _ _ hz), rfl, _, rfl, p, _, _, _, rfl, rfl, .of hp6, rfl, by show 2 ≤ sizeLine; decide, fun y ny => ?_⟩
          have sy := same_upd ny (o := .tup [V.int kk.2, V.bl r.b])
          refine ⟨q, y, _, _, rfl, rfl, .of (sy _ _ upd_same), .of upd_same, List.cons_ne_nil _ _, by show 4 + 2 ≤ sizeLine; decide, fun h => by (cases h), fun _ z nz => ?_⟩
          exact hQ _ kk.2 _ (s15.trans (sq.trans (sy.trans (same_upd nz)))) (by omega) ⟨z, rfl, upd_same⟩
  · obtain ⟨⟨z2, z3, z4, z5, rfl⟩, s1⟩ := q
    exact ⟨_, rfl, hQ _ r.a _ s1 hB ⟨p, rfl, s1 _ _ hp⟩⟩
end
end TT

-- W30
set_option Elab.async false
set_option linter.all false
set_option maxRecDepth 100000
set_option maxHeartbeats 4000000
namespace TT
open PySem PySem.Spec PyProof.Rows L2 SX TL
section
variable {P : Program} {w : World} {K : Fg} {mg : Str → Option Value} {base : Heap}
abbrev n__law_drawn_tie : List Str := ["_law_pot_here", "_law_size", "_law_wide", "_law_length", "_law_first", "_law_second"]
abbrev pr__law_drawn_tie : List Str := ["_law_pot_here", "_law_size", "_law_wide"]
theorem sc__law_drawn_tie : FnScope n__law_drawn_tie pr__law_drawn_tie (defScope s__law_drawn_tie) := ⟨rfl, rfl, rfl, by decide +kernel, rfl, by decide +kernel, by decide +kernel⟩

def spDrawn : Sp := fun vs H Q _ => ∃ g n k, vs = [V.ref g, V.int n, V.int n] ∧ PotAt H g k ∧ k ≤ 70000 ∧ 1 ≤ n ∧ n ≤ 100 ∧ ∀ u r H', Sb g H H' → PotAt H' g (k + 7) → Lad.RowOk n r → r.a.natAbs ≤ 10 ^ 20 → RowAt H' u r → Q u H'
theorem ok__law_drawn_tie (c : Env K mg) : Pm P w K mg base 4 (d__law_drawn_tie.at_ K) spDrawn := by
  obtain ⟨fd, F⟩ := fd__law_drawn_tie c
  refine .mk0 (F.ok sc__law_drawn_tie (ps := pr__law_drawn_tie) (by intro vs H Q E h; obtain ⟨_, _, _, rfl, _⟩ := h; rfl) fun cdv A0 outer s0 H vs Q E hr h => ?_) (FunD.bindsN F fun _ _ _ _ _ _ us hl => match us, hl with | [_, _, _], _ => rfl) F.kp
  obtain ⟨g, n, k, rfl, hg, hk, n1, n2, hQ⟩ := h
  have small : ∀ {u : Int}, 1 ≤ u → u ≤ 100 → u.natAbs < 2 ^ 1000 := fun {u} h1 h2 => Nat.lt_of_le_of_lt (show u.natAbs ≤ 100 by omega) (Nat.lt_of_lt_of_le (show 100 < 2 ^ 7 by decide) (Nat.pow_le_pow_right (by decide) (by decide)))
  refine ⟨_, (PSs.nox (pss_cons (ps_par (i := 4) (j := 5) (by rfl) sc__law_drawn_tie.nd rfl rfl (by decide) rfl rfl (pa_cons (pe_callF (ok__law_take c) (hr.mono (by decide)) rfl (g__law_take c) (pa_cons (pv 0) (pa_cons (pv 1) pa_nil))) (pa_cons (pe_callF (ok__law_take c) (hr.mono (by decide)) rfl (g__law_take c) (pa_cons (pv 0) (pa_cons (pv 1) pa_nil))) pa_nil)) (by rfl))
    (pss_cons (ps_set (i := 3) sc__law_drawn_tie.nd rfl (Or.inl rfl) (pe_op op_add pe_int (pe_callF (ok__law_take c) (hr.mono (by decide)) rfl (g__law_take c) (pa_cons (pv 0) (pa_cons (pe_callB (call_min2 rfl) (by rfl) (f_min c) (by decide +kernel) (pa_cons (pv 2) (pa_cons (pe_op op_sub (pv 1) (pe_callB (call_max2 rfl) (by rfl) (f_max c) (by decide +kernel) (pa_cons (pv 4) (pa_cons (pv 5) pa_nil)))) pa_nil))) pa_nil)))))
    (pss_one (ps_ret (pe_tup (pa_cons (pv 4) (pa_cons (pv 5) (pa_cons (pv 3) (pa_cons (pe_cmpR op_eq (pe_callF (ok__law_take c) (hr.mono (by decide)) rfl (g__law_take c) (pa_cons (pv 0) (pa_cons pe_int pa_nil))) pe_int (nomark _)) (pa_cons (pe_callF (ok__law_amount c) (hr.mono (by decide)) rfl (g__law_amount c) (pa_cons (pv 0) pa_nil)) (pa_cons (pe_and (pe_cmpR op_gt (pv 3) pe_int (nomark _)) (pe_one (pe_cmpR op_eq (pe_callF (ok__law_take c) (hr.mono (by decide)) rfl (g__law_take c) (pa_cons (pv 0) (pa_cons pe_int pa_nil))) pe_int (nomark _)))) pa_nil)))))))))))), ?_⟩
  refine ⟨_, rfl, _, rfl, g, n, k, rfl, hg, by omega, n1, small n1 n2, fun f H1 f0 f1 s1 g1 => ?_⟩
  refine ⟨_, rfl, _, rfl, g, n, _, rfl, g1, by omega, n1, small n1 n2, fun s H2 s0' s1' s2 g2 => ?_⟩
  refine ⟨_, _, rfl, ?_⟩
  refine ⟨_, rfl, _, rfl, _, rfl, _, rfl, _, rfl, _, _, rfl, _, _, rfl, rfl, _, _, rfl, ?_⟩
  have br : ∀ {c : Bool} {A B : Prop}, (c = true → A) → (c = false → B) → (if c = true then A else B) := fun {c A B} h1 h2 => by
    cases c
    · exact h2 rfl
    · exact h1 rfl
  have hU : ∃ U : Int, U = (if n - (if s > f then s else f) < n then n - (if s > f then s else f) else n) ∧ 1 ≤ U ∧ U ≤ n - f ∧ U ≤ n - s := by
    refine ⟨_, rfl, ?_⟩
    have a1 : (if s > f then s else f) < n := by split <;> omega
    have a2 : f ≤ (if s > f then s else f) := by split <;> omega
    have a3 : s ≤ (if s > f then s else f) := by split <;> omega
    split <;> omega
  obtain ⟨U, eU, U1, U2, U3⟩ := hU
  refine ⟨g, U, _, (by rw [eU]), g2, by omega, U1, small U1 (by omega), fun l H3 l0 l1 s3 g3 => ?_⟩
  refine ⟨_, _, rfl, rfl, ?_⟩
  refine ⟨_, rfl, _, rfl, _, rfl, _, rfl, g, 3, _, rfl, g3, by omega, by decide, small (by decide) (by decide), fun d H4 d0 d1 s4 g4 => ?_⟩
  refine ⟨rfl, _, rfl, g, _, rfl, g4, by omega, fun a H5 ha s5 g5 => ?_⟩
  refine ⟨_, rfl, _, _, rfl, rfl, _, rfl, br (fun hl => ?_) (fun hl => ?_)⟩
  · refine ⟨_, rfl, g, 3, _, rfl, g5, by omega, by decide, small (by decide) (by decide), fun e H6 e0 e1 s6 g6 => ⟨rfl, by show 6 ≤ sizeLine; decide, fun q nq => ?_⟩⟩
    refine hQ _ ⟨f, s, 1 + l, decide (V.int d = V.int 0), a, decide (V.int e = V.int 0)⟩ _ (s1.trans (s2.trans (s3.trans (s4.trans (s5.trans (s6.trans (Sb.of (same_upd nq)))))))) ((g6.mono (same_upd nq)).le (by omega)) ⟨f0, s0', by show 1 ≤ 1 + l; omega, by show f + (1 + l) ≤ n; omega, by show s + (1 + l) ≤ n; omega, fun _ => of_decide_eq_true hl⟩ ha ⟨q, rfl, upd_same⟩
  · refine ⟨by show 6 ≤ sizeLine; decide, fun q nq => ?_⟩
    refine hQ _ ⟨f, s, 1 + l, decide (V.int d = V.int 0), a, false⟩ _ (s1.trans (s2.trans (s3.trans (s4.trans (s5.trans (Sb.of (same_upd nq))))))) ((g5.mono (same_upd nq)).le (by omega)) ⟨f0, s0', by show 1 ≤ 1 + l; omega, by show f + (1 + l) ≤ n; omega, by show s + (1 + l) ≤ n; omega, fun h => by cases h⟩ ha ⟨q, rfl, upd_same⟩
end
end TT

-- W31
set_option Elab.async false
set_option linter.all false
set_option maxRecDepth 100000
set_option maxHeartbeats 4000000
namespace TT
open PySem PySem.Spec PyProof.Rows L2 SX TL
/-- a dict of places, to the edges from there -/
def WebsN (H : Hp) (kvs : List (Key × V)) (m : Nat) (N : Int → List Lad.Edge) : Prop := kvs.length ≤ m ∧ ((∀ kv ∈ kvs, ∃ p : Int, kv.1 = .inl p) ∧ (kvs.map (·.1)).Nodup) ∧
  ∀ p : Int, match valV kvs (.inl p) with
  | none => N p = []
  | some v => N p ≠ [] ∧ ∃ a us, v = V.ref a ∧ H a = some (.lst us) ∧ Paired (EdAt H) us (N p)
def WebsAt (H : Hp) (D : Addr) (ps : List Lad.Pr) : Prop := ∃ kvs : List (Key × V), H D = some (.dK kvs) ∧ WebsN H kvs (2 * ps.length) (Lad.nbrs ps)
theorem WebsN.keep {H H' : Hp} {kvs : List (Key × V)} {m : Nat} {N : Int → List Lad.Edge} (h : WebsN H kvs m N) (kl : ∀ q us, H q = some (.lst us) → H' q = some (.lst us)) (t : Tu H H') : WebsN H' kvs m N := by
  obtain ⟨h1, h2, h3⟩ := h
  refine ⟨h1, h2, fun p => ?_⟩
  have := h3 p
  cases hv : valV kvs (.inl p) with
  | none => rw [hv] at this; exact this
  | some v =>
    rw [hv] at this
    obtain ⟨ne, a, us, e, hl, pe⟩ := this
    exact ⟨ne, a, us, e, kl _ _ hl, pair_mono pe fun _ _ y => y.tu t⟩
theorem val_put {kvs : List (Key × V)} {k j : Key} {v : V} : valV (putK kvs k v) j = if j = k then some v else valV kvs j := by
  unfold putK
  by_cases h : (kvs.any fun kv => decide (kv.1 = k)) = true
  · rw [if_pos h]
    induction kvs with
    | nil => cases h
    | cons kv r ih =>
      rw [List.map_cons]
      by_cases e : kv.1 = k
      · rw [if_pos e]
        by_cases hj : j = k
        · rw [if_pos hj, valV_pos (show (kv.1, v).1 = j from e.trans hj.symm)]
        · rw [if_neg hj, valV_neg (show ¬ (kv.1, v).1 = j from fun q => hj (q.symm.trans e)), valV_neg (fun q => hj (q.symm.trans e))]
          clear ih h
          induction r with
          | nil => rfl
          | cons kv2 r ih =>
            rw [List.map_cons]
            by_cases e2 : kv2.1 = k
            · rw [if_pos e2, valV_neg (show ¬ (kv2.1, v).1 = j from fun q => hj (q.symm.trans e2)), valV_neg (fun q => hj (q.symm.trans e2)), ih]
            · rw [if_neg e2]
              by_cases e3 : kv2.1 = j
              · rw [valV_pos e3, valV_pos e3]
              · rw [valV_neg e3, valV_neg e3, ih]
      · rw [if_neg e]
        rw [List.any_cons, decide_eq_false e, Bool.false_or] at h
        by_cases e3 : kv.1 = j
        · rw [valV_pos e3, valV_pos e3, if_neg (fun q => e (e3.trans q))]
        · rw [valV_neg e3, valV_neg e3, ih h]
  · rw [if_neg h]
    induction kvs with
    | nil =>
      rw [List.nil_append]
      by_cases hj : j = k
      · rw [if_pos hj, valV_pos hj.symm]
      · rw [if_neg hj, valV_neg (fun q => hj q.symm)]
    | cons kv r ih =>
      rw [List.any_cons] at h
      have e : ¬ kv.1 = k := fun q => h (by rw [decide_eq_true q, Bool.true_or])
      have h2 : ¬ (r.any fun kv => decide (kv.1 = k)) = true := fun q => h (by rw [q, Bool.or_true])
      rw [List.cons_append]
      by_cases e3 : kv.1 = j
      · rw [valV_pos e3, valV_pos e3, if_neg (fun q => e (e3.trans q))]
      · rw [valV_neg e3, valV_neg e3, ih h2]
theorem len_put {kvs : List (Key × V)} {k : Key} {v : V} : (putK kvs k v).length ≤ kvs.length + 1 := by
  unfold putK
  split
  · rw [List.length_map]; omega
  · rw [List.length_append]; exact Nat.le_refl _
theorem key_put {kvs : List (Key × V)} {k : Key} {v : V} : ∀ kv ∈ putK kvs k v, kv.1 = k ∨ ∃ q ∈ kvs, q.1 = kv.1 := by
  intro kv h
  unfold putK at h
  split at h
  · obtain ⟨q, hq, rfl⟩ := List.mem_map.mp h
    by_cases e : q.1 = k
    · rw [if_pos e]; exact .inl e
    · rw [if_neg e]; exact .inr ⟨q, hq, rfl⟩
  · rcases List.mem_append.mp h with h | h
    · exact .inr ⟨kv, h, rfl⟩
    · rw [List.mem_singleton.mp h]; exact .inl rfl
theorem nodup_put {kvs : List (Key × V)} {k : Key} {v : V} (h : (kvs.map (·.1)).Nodup) : ((putK kvs k v).map (·.1)).Nodup := by
  unfold putK
  by_cases ha : (kvs.any fun kv => decide (kv.1 = k)) = true
  · rw [if_pos ha, List.map_map]
    have e : ((fun x : Key × V => x.1) ∘ fun kv : Key × V => if kv.1 = k then (kv.1, v) else kv) = fun kv => kv.1 := by
      funext kv
      show (if kv.1 = k then (kv.1, v) else kv).1 = kv.1
      split <;> rfl
    rw [e]
    exact h
  · rw [if_neg ha, List.map_append]
    refine List.nodup_append.mpr ⟨h, by simp, fun a ha' b hb => ?_⟩
    simp only [List.map_cons, List.map_nil, List.mem_singleton] at hb
    subst hb
    intro q
    subst q
    obtain ⟨kv, hkv, e⟩ := List.mem_map.mp ha'
    exact ha (List.any_eq_true.mpr ⟨kv, hkv, decide_eq_true e⟩)
theorem webs_put {H : Hp} {kvs : List (Key × V)} {m : Nat} {N : Int → List Lad.Edge} {p0 : Int} {e : Lad.Edge} {us : List V} {l : Addr} (h : WebsN H kvs m N) (hl : H l = some (.lst us)) (pe : Paired (EdAt H) us (N p0 ++ [e])) :
    WebsN H (putK kvs (.inl p0) (.ref l)) (m + 1) (fun p => N p ++ if p0 = p then [e] else []) := by
  obtain ⟨h1, h2, h3⟩ := h
  refine ⟨Nat.le_trans len_put (by omega), ⟨fun kv hk => ?_, nodup_put h2.2⟩, fun p => ?_⟩
  · rcases key_put kv hk with q | ⟨q, hq, e⟩
    · exact ⟨p0, q⟩
    · rw [← e]; exact h2.1 q hq
  · rw [val_put]
    by_cases hp : p = p0
    · rw [if_pos (by rw [hp])]
      subst hp
      simp only [if_pos]
      exact ⟨by simp, l, us, rfl, hl, pe⟩
    · rw [if_neg (fun q => hp (Sum.inl.inj q))]
      have e0 : (if p0 = p then [e] else []) = ([] : List Lad.Edge) := if_neg (fun q => hp q.symm)
      simp only [e0, List.append_nil]
      exact h3 p
theorem webs_get {H : Hp} {kvs : List (Key × V)} {m : Nat} {N : Int → List Lad.Edge} (h : WebsN H kvs m N) (p0 : Int) {e : Addr} (he : H e = some (.lst [])) : ∃ a us, (valV kvs (.inl p0)).getD (.ref e) = .ref a ∧ H a = some (.lst us) ∧ Paired (EdAt H) us (N p0) := by
  have := h.2.2 p0
  cases hv : valV kvs (.inl p0) with
  | none =>
    rw [hv] at this
    refine ⟨e, [], rfl, he, ?_⟩
    rw [show N p0 = [] from this]
    exact .nil
  | some v =>
    rw [hv] at this
    obtain ⟨_, a, us, rfl, hl, pe⟩ := this
    exact ⟨a, us, rfl, hl, pe⟩
theorem WebsN.len {H : Hp} {kvs : List (Key × V)} {m : Nat} {N : Int → List Lad.Edge} (h : WebsN H kvs m N) : kvs.length ≤ m := h.1
theorem nbrs_len : ∀ (ps : List Lad.Pr) (p : Int), (Lad.nbrs ps p).length ≤ 2 * ps.length
  | [], p => Nat.zero_le _
  | r :: ps, p => by
    have h := nbrs_len ps p
    unfold Lad.nbrs at h ⊢
    rw [List.flatMap_cons, List.length_append, List.length_cons]
    have : (Lad.nbr1 p r).length ≤ 2 := by
      unfold Lad.nbr1
      rw [List.length_append]
      have h1 : ∀ (c : Prop) [Decidable c] (x : Lad.Edge), (if c then [x] else []).length ≤ 1 := fun c _ x => by split <;> simp
      have := h1 (r.p = p) (r.q, r.s, r.a)
      have := h1 (r.q = p) (r.p, r.s, -r.s * r.a)
      omega
    omega
section
variable {P : Program} {w : World} {K : Fg} {mg : Str → Option Value} {base : Heap}
abbrev n__law_webs : List Str := ["_law_pairs_here", "_law_found_here", "_law_one", "_law_other", "_law_sign", "_law_amount_here"]
abbrev pr__law_webs : List Str := ["_law_pairs_here"]
theorem sc__law_webs : FnScope n__law_webs pr__law_webs (defScope s__law_webs) := ⟨rfl, rfl, rfl, by decide +kernel, rfl, by decide +kernel, by decide +kernel⟩

def spWebs : Sp := fun vs H Q _ => ∃ a us ps, vs = [V.ref a] ∧ H a = some (.lst us) ∧ Paired (PrAt H) us ps ∧ ps.length ≤ 1000 ∧ Lad.Ones ps ∧ ∀ D H', Same H H' → H D = none → WebsAt H' D ps → Q (V.ref D) H'
theorem ok__law_webs (c : Env K mg) : Pm P w K mg base 1 (d__law_webs.at_ K) spWebs := by
  obtain ⟨fd, F⟩ := fd__law_webs c
  refine .mk0 (F.ok sc__law_webs (ps := pr__law_webs) (by intro vs H Q E h; obtain ⟨_, _, _, rfl, _⟩ := h; rfl) fun cdv A0 outer s0 H vs Q E hr h => ?_) (FunD.bindsN F fun _ _ _ _ _ _ us hl => match us, hl with | [_], _ => rfl) F.kp
  obtain ⟨a, us, ps, rfl, ha, hp, hn, hO, hQ⟩ := h
  have hlen := pair_len hp
  refine ⟨_, (PSs.nox (pss_cons (ps_set (i := 1) sc__law_webs.nd rfl (Or.inl rfl) pe_dnewK)
    (pss_cons (ps_for PassesOwn.never rfl (pi_list (pv 0)) (pg_tup rfl (pgs_cons (pg_name (i := 2) sc__law_webs.nd rfl (Or.inl rfl)) (pgs_cons (pg_name (i := 3) sc__law_webs.nd rfl (Or.inl rfl)) (pgs_cons (pg_name (i := 4) sc__law_webs.nd rfl (Or.inl rfl)) (pgs_cons (pg_name (i := 5) sc__law_webs.nd rfl (Or.inl rfl)) pgs_nil)))))
    (pss_cons (ps_dput (hu_of hr) (pv 1) (pv 2) (pe_op op_cat (pe_dget2 (hu_of hr) (pv 1) (pv 2) (pe_lst pa_nil) ⟨rfl, rfl, rfl, rfl⟩) (pe_lst (pa_cons (pe_tup (pa_cons (pv 3) (pa_cons (pv 4) (pa_cons (pv 5) pa_nil)))) pa_nil))) rfl)
    (pss_one (ps_dput (hu_of hr) (pv 1) (pv 3) (pe_op op_cat (pe_dget2 (hu_of hr) (pv 1) (pv 3) (pe_lst pa_nil) ⟨rfl, rfl, rfl, rfl⟩) (pe_lst (pa_cons (pe_tup (pa_cons (pv 2) (pa_cons (pv 4) (pa_cons (pe_op op_mul (pe_un un_neg (pv 4)) (pv 5)) pa_nil)))) pa_nil))) rfl))))
    (pss_one (ps_ret (pv 1)))))), ?_⟩
  intro D nD
  refine ⟨_, rfl, a, rfl, ⟨_, .of (same_upd nD _ _ ha)⟩, ?_⟩
  refine for_it (walk_list (xs := us)) (fun i σ H' => ∃ z2 z3 z4 z5, σ = [some (.ref a), some (.ref D), z2, z3, z4, z5] ∧ WebsAt H' D (ps.take i) ∧ Same H H') ⟨_, _, _, _, rfl, ⟨[], upd_same, Nat.zero_le _, ⟨(fun _ h => nomatch h), List.nodup_nil⟩, fun p => rfl⟩, same_upd nD⟩ (fun i σ H' _ e => by
    obtain ⟨_, _, _, _, _, _, s⟩ := e
    exact SqL.of (K := K) (s _ _ ha)) (fun i x σ H1 H2 hi q hy => ?_) (fun σ H1 q => ?_)
  · obtain ⟨z2, z3, z4, z5, rfl, hW, s1⟩ := q
    obtain ⟨rfl, hy⟩ := hy
    obtain ⟨z, hz1, hpr⟩ := pair_get hp hy
    obtain ⟨pz, rfl, hpz⟩ := hpr.tu (Tu.of s1)
    refine ⟨pz, _, rfl, .of hpz, rfl, _, _, rfl, _, _, rfl, _, _, rfl, _, _, rfl, rfl, ?_⟩
    obtain ⟨kvs, hD, hW⟩ := hW
    have hil : i < ps.length := by omega
    have lenN : ∀ p, (Lad.nbrs (ps.take i) p).length ≤ 2 * i := fun p => Nat.le_trans (nbrs_len (ps.take i) p) (by rw [List.length_take]; omega)
    refine ⟨_, rfl, D, rfl, .inl ⟨_, .inl hD⟩, _, rfl, Nat.zero_le _, fun e1 ne1 => ?_⟩
    have se1 := same_upd ne1 (o := .lst [])
    obtain ⟨ae1, ue1, eq1, hae1, pe1⟩ := webs_get (hW.keep (fun q us h => se1 _ _ h) (Tu.of se1)) z.p (upd_same (H := H2) (a := e1) (o := .lst []))
    refine ⟨_, DGet.k (k := .inl z.p) (se1 _ _ hD), ?_⟩
    rw [eq1]
    refine ⟨_, rfl, _, rfl, _, rfl, by show 3 ≤ sizeLine; decide, fun t1 nt1 => ⟨by show 1 ≤ sizeLine; decide, fun l1 nl1 => ?_⟩⟩
    have st1 := same_upd nt1 (o := .tup [V.int z.q, V.int z.s, V.int z.a])
    have sl1 := same_upd nl1 (o := .lst [V.ref t1])
    have hlen1 := pair_len pe1
    refine ⟨ae1, l1, ue1, [V.ref t1], rfl, rfl, sl1 _ _ (st1 _ _ hae1), upd_same, by rw [hlen1]; have := lenN z.p; exact line_big (by show _ + 1 ≤ 100000; omega), fun c1 nc1 => ?_⟩
    have sc1 := same_upd nc1 (o := .lst (ue1 ++ [V.ref t1]))
    have sA1 := se1.trans (st1.trans (sl1.trans sc1))
    have hDa1 := sA1 _ _ hD
    have pet1 : Paired (EdAt _) (ue1 ++ [V.ref t1]) (_ ++ [(z.q, z.s, z.a)]) := pair_app (pair_mono pe1 fun _ _ y => y.tu (Tu.of (st1.trans (sl1.trans sc1)))) (.cons ⟨t1, rfl, sc1 _ _ (sl1 _ _ upd_same)⟩ .nil)
    have hWa1 := webs_put (hW.keep (fun q us h => sA1 _ _ h) (Tu.of sA1)) upd_same pet1
    refine ⟨_, rfl, _, rfl, D, _, rfl, DPut.k (k := .inl z.p) hDa1 (lt_line (by have := hW.len; rw [List.length_take] at this; omega)), ?_⟩
    have s5 := same_set (o := .dK (putK kvs (.inl z.p) (.ref c1))) (s1.trans sA1) nD
    have keepD : ∀ {Hx : Hp} {kv1 kv2 : List (Key × V)}, Hx D = some (.dK kv1) → (∀ q us, Hx q = some (.lst us) → (upd Hx D (.dK kv2)) q = some (.lst us)) ∧ Tu Hx (upd Hx D (.dK kv2)) := fun {Hx kv1 kv2} h => ⟨fun q us e => by rw [upd_ne (ne_of e h (by intro z; cases z))]; exact e, fun q us e => by rw [upd_ne (ne_of e h (by intro z; cases z))]; exact e⟩
    have hW5 := hWa1.keep (keepD (kv2 := putK kvs (.inl z.p) (.ref c1)) hDa1).1 (keepD (kv2 := putK kvs (.inl z.p) (.ref c1)) hDa1).2
    have hD5 := (show ∀ {Hx : Hp} {kv : List (Key × V)}, Hx D = some (.dK kv) → (upd Hx D (.dK (putK kvs (.inl z.p) (.ref c1)))) D = some (.dK (putK kvs (.inl z.p) (.ref c1))) from fun _ => upd_same) hDa1
    revert s5 hW5 hD5
    generalize upd (upd (upd (upd (upd H2 e1 (.lst [])) t1 (.tup [V.int z.q, V.int z.s, V.int z.a])) l1 (.lst [V.ref t1])) c1 (.lst (ue1 ++ [V.ref t1]))) D (.dK (putK kvs (.inl z.p) (.ref c1))) = H5
    intro s5 hW5 hD5
    have hz01 := hO z (List.mem_of_getElem? hz1)
    refine ⟨_, rfl, D, rfl, .inl ⟨_, .inl hD5⟩, _, rfl, Nat.zero_le _, fun e2 ne2 => ?_⟩
    have se2 := same_upd ne2 (o := .lst [])
    obtain ⟨ae2, ue2, eq2, hae2, pe2⟩ := webs_get (hW5.keep (fun q us h => se2 _ _ h) (Tu.of se2)) z.q (upd_same (H := H5) (a := e2) (o := .lst []))
    refine ⟨_, DGet.k (k := .inl z.q) (se2 _ _ hD5), ?_⟩
    rw [eq2]
    refine ⟨_, rfl, _, rfl, _, rfl, _, rfl, _, rfl, _, _, rfl, rfl, .inl ⟨by omega, by omega⟩, by show 3 ≤ sizeLine; decide, fun t2 nt2 => ⟨by show 1 ≤ sizeLine; decide, fun l2 nl2 => ?_⟩⟩
    have st2 := same_upd nt2 (o := .tup [V.int z.p, V.int z.s, V.int (-z.s * z.a)])
    have sl2 := same_upd nl2 (o := .lst [V.ref t2])
    have hlen2 := pair_len pe2
    refine ⟨ae2, l2, ue2, [V.ref t2], rfl, rfl, sl2 _ _ (st2 _ _ hae2), upd_same, (by rw [hlen2]; have := lenN z.q; have : (if z.p = z.q then [(z.q, z.s, z.a)] else ([] : List Lad.Edge)).length ≤ 1 := (by split <;> simp); rw [List.length_append]; exact line_big (by show _ + 1 ≤ 100000; omega)), fun c2 nc2 => ?_⟩
    have sc2 := same_upd nc2 (o := .lst (ue2 ++ [V.ref t2]))
    have sA2 := se2.trans (st2.trans (sl2.trans sc2))
    have hDa2 := sA2 _ _ hD5
    have pet2 : Paired (EdAt _) (ue2 ++ [V.ref t2]) (_ ++ [(z.p, z.s, -z.s * z.a)]) := pair_app (pair_mono pe2 fun _ _ y => y.tu (Tu.of (st2.trans (sl2.trans sc2)))) (.cons ⟨t2, rfl, sc2 _ _ (sl2 _ _ upd_same)⟩ .nil)
    have hWa2 := webs_put (hW5.keep (fun q us h => sA2 _ _ h) (Tu.of sA2)) upd_same pet2
    have hlk2 := hW5.len
    refine ⟨_, rfl, _, rfl, D, _, rfl, DPut.k (k := .inl z.q) hDa2 (lt_line (by rw [List.length_take] at hlk2; omega)), ?_⟩
    refine ⟨_, _, _, _, rfl, ⟨_, upd_same, ?_⟩, same_set (s5.trans sA2) nD⟩
    have fin := hWa2.keep (keepD (kv2 := putK (putK kvs (.inl z.p) (.ref c1)) (.inl z.q) (.ref c2)) hDa2).1 (keepD (kv2 := putK (putK kvs (.inl z.p) (.ref c1)) (.inl z.q) (.ref c2)) hDa2).2
    have e1 : ps.take (i + 1) = ps.take i ++ [z] := by rw [List.take_add_one, hz1]; rfl
    obtain ⟨f1, f2, f3⟩ := fin
    refine ⟨Nat.le_trans f1 (by rw [List.length_take, List.length_take]; omega), f2, fun p => ?_⟩
    have e2 : Lad.nbrs (ps.take (i + 1)) p = (Lad.nbrs (ps.take i) p ++ if z.p = p then [(z.q, z.s, z.a)] else []) ++ if z.q = p then [(z.p, z.s, -z.s * z.a)] else [] := by
      rw [e1]
      unfold Lad.nbrs
      rw [List.flatMap_append, List.flatMap_cons, List.flatMap_nil, List.append_nil, List.append_assoc]
      rfl
    rw [e2]
    exact f3 p
  · obtain ⟨z2, z3, z4, z5, rfl, hW, s1⟩ := q
    rw [hlen, List.take_length] at hW
    exact ⟨_, rfl, hQ D _ s1 nD hW⟩
end
end TT

-- W32
set_option Elab.async false
set_option linter.all false
set_option maxRecDepth 100000
set_option maxHeartbeats 4000000
namespace TT
open PySem PySem.Spec PyProof.Rows L2 SX TL
/-- the state of a web: the dict of signs, the lists of notes and of places to do -/
def SgAt (H : Hp) (v : V) (so : Int × Int) : Prop := ∃ p, v = V.ref p ∧ H p = some (.tup [V.int so.1, V.int so.2])
def KvAt (H : Hp) (kv : Key × V) (k : Int × (Int × Int)) : Prop := kv.1 = .inl k.1 ∧ SgAt H kv.2 k.2
def optV : Option Int → V
  | none => .non
  | some n => .int n
def SignsAt (H : Hp) (D : Addr) (s : Lad.Signs) : Prop := ∃ kvs, H D = some (.dK kvs) ∧ Paired (KvAt H) kvs s
theorem SgAt.tu {H H' : Hp} {v : V} {so : Int × Int} (h : SgAt H v so) (t : Tu H H') : SgAt H' v so := by
  obtain ⟨p, e, h⟩ := h
  exact ⟨p, e, t _ _ h⟩
theorem KvAt.tu {H H' : Hp} {kv : Key × V} {k : Int × (Int × Int)} (h : KvAt H kv k) (t : Tu H H') : KvAt H' kv k := ⟨h.1, h.2.tu t⟩
theorem signs_get {H : Hp} {kvs : List (Key × V)} {s : Lad.Signs} (h : Paired (KvAt H) kvs s) (p : Int) : match valV kvs (.inl p) with
    | none => s.lookup p = none
    | some v => ∃ so, s.lookup p = some so ∧ SgAt H v so := by
  induction h with
  | nil => exact rfl
  | @cons kv k kvs s h t ih =>
    obtain ⟨k1, k2⟩ := k
    by_cases e : p = k1
    · rw [valV_pos (show kv.1 = .inl p by rw [h.1, e])]
      refine ⟨k2, ?_, h.2⟩
      simp [List.lookup, e]
    · rw [valV_neg (show ¬ kv.1 = .inl p by rw [h.1]; exact fun q => e (Sum.inl.inj q).symm)]
      have hb : (p == k1) = false := beq_eq_false_iff_ne.mpr e
      simp only [List.lookup, hb]
      exact ih
theorem put_new {kvs : List (Key × V)} {k : Key} {v : V} (h : valV kvs k = none) : putK kvs k v = kvs ++ [(k, v)] := by
  unfold putK
  rw [valV_any, h]
  rfl
/-- the three objects of a web that is being gone along -/
structure WebI (H0 H : Hp) (Ds Dn Dt : Addr) (w : Lad.Web) : Prop where
  sg : SignsAt H Ds w.signs
  no : H Dn = some (.lst (w.notes.map optV))
  td : H Dt = some (.lst (w.todo.map V.int))
  nt : Dn ≠ Dt
  fs : H0 Ds = none
  fn : H0 Dn = none
  ft : H0 Dt = none
  sm : Same H0 H
theorem WebI.grow {H0 H H' : Hp} {Ds Dn Dt : Addr} {w : Lad.Web} (I : WebI H0 H Ds Dn Dt w) (s : Same H H') : WebI H0 H' Ds Dn Dt w := by
  obtain ⟨⟨kvs, h1, h2⟩, h3, h4, h5, h6, h7, h8, h9⟩ := I
  exact ⟨⟨kvs, s _ _ h1, pair_mono h2 fun _ _ y => y.tu (Tu.of s)⟩, s _ _ h3, s _ _ h4, h5, h6, h7, h8, h9.trans s⟩
theorem webI_new {H0 H : Hp} {Ds Dn Dt : Addr} {w : Lad.Web} {kvs : List (Key × V)} {q : Int} {so : Int × Int} {v : V} (I : WebI H0 H Ds Dn Dt w) (hk : H Ds = some (.dK kvs)) (hp : Paired (KvAt H) kvs w.signs) (hv : SgAt H v so) :
    WebI H0 (upd (upd H Ds (.dK (kvs ++ [(.inl q, v)]))) Dt (.lst ((w.todo ++ [q]).map V.int))) Ds Dn Dt ⟨w.signs ++ [(q, so)], w.notes, w.todo ++ [q]⟩ := by
  have n1 : Ds ≠ Dt := ne_of hk I.td (by intro z; cases z)
  have n2 : Ds ≠ Dn := ne_of hk I.no (by intro z; cases z)
  have tu : Tu H (upd (upd H Ds (.dK (kvs ++ [(.inl q, v)]))) Dt (.lst ((w.todo ++ [q]).map V.int))) := fun x us e => by
    rw [upd_ne (ne_of e I.td (by intro z; cases z)), upd_ne (ne_of e hk (by intro z; cases z))]
    exact e
  refine ⟨⟨kvs ++ [(.inl q, v)], by rw [upd_ne n1]; exact upd_same, pair_app (pair_mono hp fun _ _ y => y.tu tu) (.cons ⟨rfl, hv.tu tu⟩ .nil)⟩, ?_, upd_same, I.nt, I.fs, I.fn, I.ft, same_set (same_set I.sm I.fs) I.ft⟩
  rw [upd_ne I.nt, upd_ne n2.symm]
  exact I.no
theorem webI_note {H0 H : Hp} {Ds Dn Dt : Addr} {w : Lad.Web} {o : Option Int} (I : WebI H0 H Ds Dn Dt w) : WebI H0 (upd H Dn (.lst (w.notes.map optV ++ [optV o]))) Ds Dn Dt ⟨w.signs, w.notes ++ [o], w.todo⟩ := by
  obtain ⟨kvs, hk, hp⟩ := I.sg
  have n2 : Ds ≠ Dn := ne_of hk I.no (by intro z; cases z)
  have tu : Tu H (upd H Dn (.lst (w.notes.map optV ++ [optV o]))) := fun x us e => by
    rw [upd_ne (ne_of e I.no (by intro z; cases z))]
    exact e
  refine ⟨⟨kvs, by rw [upd_ne n2]; exact hk, pair_mono hp fun _ _ y => y.tu tu⟩, ?_, by rw [upd_ne I.nt.symm]; exact I.td, I.nt, I.fs, I.fn, I.ft, same_set I.sm I.fn⟩
  rw [upd_same, List.map_append]
  rfl
theorem webI_pop {H0 H : Hp} {Ds Dn Dt : Addr} {w : Lad.Web} {ys : List Int} (I : WebI H0 H Ds Dn Dt w) : WebI H0 (upd H Dt (.lst (ys.map V.int))) Ds Dn Dt ⟨w.signs, w.notes, ys⟩ := by
  obtain ⟨kvs, hk, hp⟩ := I.sg
  have n1 : Ds ≠ Dt := ne_of hk I.td (by intro z; cases z)
  have tu : Tu H (upd H Dt (.lst (ys.map V.int))) := fun x us e => by
    rw [upd_ne (ne_of e I.td (by intro z; cases z))]
    exact e
  exact ⟨⟨kvs, by rw [upd_ne n1]; exact hk, pair_mono hp fun _ _ y => y.tu tu⟩, by rw [upd_ne I.nt]; exact I.no, upd_same, I.nt, I.fs, I.fn, I.ft, same_set I.sm I.ft⟩
def pairD (a b : Int) : PyData := .tuple [.int a, .int b]
theorem pair_dp {K : Fg} {H : Hp} {p : Addr} {a b : Int} (h : H p = some (.tup [V.int a, V.int b])) : Dp K H (.ref p) (pairD a b) := .tup (.of h) (.cons (.int a) (.cons (.int b) .nil))
theorem pair_sh (a b : Int) : SeqAt.shaped (pairD a b) = true := rfl
theorem pair_eqv (a b c d : Int) : PyData.eqv (pairD a b) (pairD c d) = decide ((a, b) = (c, d)) := by
  show (a == c && (b == d && true)) = _
  rw [Bool.and_true]
  by_cases h1 : a = c
  · by_cases h2 : b = d
    · subst h1 h2; simp
    · rw [decide_eq_false (fun q => h2 (Prod.mk.inj q).2), beq_eq_false_iff_ne.mpr h2, Bool.and_false]
  · rw [decide_eq_false (fun q => h1 (Prod.mk.inj q).1), beq_eq_false_iff_ne.mpr h1, Bool.false_and]
end TT

-- M20
set_option linter.all false
set_option maxRecDepth 10000
namespace Lad
/-! how many edges there are from some places -/
def dg (ps : List Pr) (l : List Int) : Nat := (l.map fun p => (nbrs ps p).length).sum
theorem dg_app {ps : List Pr} {a b : List Int} : dg ps (a ++ b) = dg ps a + dg ps b := by
  unfold dg
  rw [List.map_append, List.sum_append]
theorem dg_one {ps : List Pr} {p : Int} : dg ps [p] = (nbrs ps p).length := by
  unfold dg
  simp
def ct (c : Int) (l : List Int) : Nat := (l.map fun p => if c = p then 1 else 0).sum
theorem ct_zero {c : Int} : ∀ {l : List Int}, c ∉ l → ct c l = 0
  | [], _ => rfl
  | a :: l, h => by
    have h1 : c ≠ a := fun e => h (by rw [e]; exact List.mem_cons_self)
    have h2 := ct_zero (c := c) (l := l) fun e => h (List.mem_cons_of_mem _ e)
    unfold ct at h2 ⊢
    rw [List.map_cons, List.sum_cons, if_neg h1, h2]
theorem ct_le {c : Int} : ∀ {l : List Int}, l.Nodup → ct c l ≤ 1
  | [], _ => Nat.zero_le _
  | a :: l, h => by
    obtain ⟨h1, h2⟩ := List.nodup_cons.mp h
    have ih := ct_le (c := c) h2
    by_cases e : c = a
    · subst e
      have z := ct_zero h1
      unfold ct at z ⊢
      rw [List.map_cons, List.sum_cons, if_pos rfl, z]
      exact Nat.le_refl _
    · unfold ct at ih ⊢
      rw [List.map_cons, List.sum_cons, if_neg e]
      omega
theorem nbr1_len (p : Int) (r : Pr) : (nbr1 p r).length = (if r.p = p then 1 else 0) + (if r.q = p then 1 else 0) := by
  unfold nbr1
  rw [List.length_append]
  congr 1
  · split <;> rfl
  · split <;> rfl
theorem dg_cons {r : Pr} {ps : List Pr} : ∀ {l : List Int}, dg (r :: ps) l = ct r.p l + ct r.q l + dg ps l
  | [] => rfl
  | a :: l => by
    have ih := dg_cons (r := r) (ps := ps) (l := l)
    unfold dg ct at ih ⊢
    simp only [List.map_cons, List.sum_cons]
    rw [ih]
    unfold nbrs
    rw [List.flatMap_cons, List.length_append, nbr1_len]
    omega
theorem dg_nil : ∀ l : List Int, dg [] l = 0
  | [] => rfl
  | a :: l => by
    have ih := dg_nil l
    unfold dg at ih ⊢
    rw [List.map_cons, List.sum_cons, ih]
    rfl
theorem dg_le : ∀ (ps : List Pr) {l : List Int}, l.Nodup → dg ps l ≤ 2 * ps.length
  | [], l, h => by
    rw [dg_nil]
    exact Nat.zero_le _
  | r :: ps, l, h => by
    have ih := dg_le ps h
    have h1 := ct_le (c := r.p) h
    have h2 := ct_le (c := r.q) h
    rw [dg_cons, List.length_cons]
    omega
end Lad

-- W33
set_option Elab.async false
set_option linter.all false
set_option maxRecDepth 100000
set_option maxHeartbeats 4000000
namespace TT
open PySem PySem.Spec PyProof.Rows L2 SX TL
section
variable {P : Program} {w : World} {K : Fg} {mg : Str → Option Value} {base : Heap}
abbrev n__law_web_from : List Str := ["_law_webs_here", "_law_root", "_law_signs", "_law_notes", "_law_todo", "_law_place", "_law_own_sign", "_law_own", "_law_other", "_law_sign", "_law_amount_here", "_law_come", "_law_twice", "_law_is_whole"]
abbrev pr__law_web_from : List Str := ["_law_webs_here", "_law_root"]
theorem sc__law_web_from : FnScope n__law_web_from pr__law_web_from (defScope s__law_web_from) := ⟨rfl, rfl, rfl, by decide +kernel, rfl, by decide +kernel, by decide +kernel⟩

def spWebFrom : Sp := fun vs H Q _ => ∃ (W : Addr) (root : Int) (ps : List Lad.Pr) (B N : Nat) (Qp : Int → Prop), vs = [V.ref W, V.int root] ∧ WebsAt H W ps ∧ Lad.Ones ps ∧ ps.length ≤ 200 ∧ N ≤ 500 ∧ (∀ p, ∀ e ∈ Lad.nbrs ps p, e.2.2.natAbs ≤ B) ∧
  (∀ p, ∀ e ∈ Lad.nbrs ps p, Qp p → Qp e.1) ∧ Qp root ∧ (∀ w, Lad.WInv ps B Qp root w → w.signs.length ≤ N) ∧
  ∀ Ds Dn signs notes p Hf, Same H Hf → H Dn = none → notes.length ≤ 2 * ps.length → Lad.WebEnd ps B Qp root signs notes → Hf p = some (.tup [V.ref Ds, V.ref Dn]) → SignsAt Hf Ds signs → Hf Dn = some (.lst (notes.map optV)) → Q (V.ref p) Hf
theorem ok__law_web_from (c : Env K mg) : Pm P w K mg base 1 (d__law_web_from.at_ K) spWebFrom := by
  obtain ⟨fd, F⟩ := fd__law_web_from c
  refine .mk0 (F.ok sc__law_web_from (ps := pr__law_web_from) (by intro vs H Q E h; obtain ⟨_, _, _, _, _, _, rfl, _⟩ := h; rfl) fun cdv A0 outer s0 H vs Q E hr h => ?_) (FunD.bindsN F fun _ _ _ _ _ _ us hl => match us, hl with | [_, _], _ => rfl) F.kp
  obtain ⟨W, root, ps, B, N, Qp, rfl, hW, hO, hn, hN, hB, hQp, hroot, hNw, hQ⟩ := h
  refine ⟨_, (PSs.nox (pss_cons (ps_par3 (i := 2) (j := 3) (l := 4) (by rfl) sc__law_web_from.nd rfl rfl rfl (by decide) (by decide) (by decide) rfl rfl rfl (pa_cons (pe_disp (pps_cons (pv 1) (pe_tup (pa_cons pe_int (pa_cons pe_int pa_nil))) pps_nil) (by rfl) (by rfl) (List.cons_ne_nil _ _) (by decide)) (pa_cons (pe_lst pa_nil) (pa_cons (pe_lst (pa_cons (pv 1) pa_nil)) pa_nil))) (by rfl))
    (pss_cons (ps_while PassesOwn.never (pt_cmpR (op_neNil hr.units0) (pv 4) (pe_lst pa_nil) (nomark _))
    (pss_cons (ps_set (i := 5) sc__law_web_from.nd rfl (Or.inl rfl) (pe_bm0 PySem.F.plainAttrs_list PySem.F.slot_list_pop PySem.F.type_list_pop mt_pop (pv 4)))
    (pss_cons (ps_asg (pe_dget (hu_of hr) (pv 2) (pv 5) (fun _ _ => rfl)) (pg_tup rfl (pgs_cons (pg_name (i := 6) sc__law_web_from.nd rfl (Or.inl rfl)) (pgs_cons (pg_name (i := 7) sc__law_web_from.nd rfl (Or.inl rfl)) pgs_nil))))
    (pss_one (ps_for PassesOwn.never rfl (pi_list (pe_dget2 (hu_of hr) (pv 0) (pv 5) (pe_lst pa_nil) ⟨rfl, rfl, rfl, rfl⟩)) (pg_tup rfl (pgs_cons (pg_name (i := 8) sc__law_web_from.nd rfl (Or.inl rfl)) (pgs_cons (pg_name (i := 9) sc__law_web_from.nd rfl (Or.inl rfl)) (pgs_cons (pg_name (i := 10) sc__law_web_from.nd rfl (Or.inl rfl)) pgs_nil))))
    (pss_cons (ps_set (i := 11) sc__law_web_from.nd rfl (Or.inl rfl) (pe_tup (pa_cons (pe_op op_mul (pv 9) (pv 6)) (pa_cons (pe_op op_add (pv 10) (pe_op op_mul (pv 9) (pv 7))) pa_nil))))
    (pss_one (ps_if (pt_cmp (pc_dnotin (hu_of hr) (pv 8) (pv 2))) (pss_cons (ps_dput (hu_of hr) (pv 2) (pv 8) (pv 11) rfl)
    (pss_one (ps_expr (pe_bm PySem.F.plainAttrs_list PySem.F.slot_list_append PySem.F.type_list_append mt_append (pv 4) (pa_cons (pv 8) pa_nil))))) (pss_one (ps_if (pt_cmpR (op_neD hr.units) (pe_dget (hu_of hr) (pv 2) (pv 8) (fun _ _ => rfl)) (pv 11) (nomark _)) (pss_cons (ps_set (i := 12) sc__law_web_from.nd rfl (Or.inl rfl) (pe_op op_mul (pe_ix ix_tup (pv 11) pe_int (fun _ _ => rfl)) (pe_op op_sub (pe_ix ix_tup (pe_dget (hu_of hr) (pv 2) (pv 8) (fun _ _ => rfl)) pe_int (fun _ _ => rfl)) (pe_ix ix_tup (pv 11) pe_int (fun _ _ => rfl)))))
    (pss_cons (ps_set (i := 13) sc__law_web_from.nd rfl (Or.inl rfl) (pe_and (pe_cmpR op_ne (pe_ix ix_tup (pe_dget (hu_of hr) (pv 2) (pv 8) (fun _ _ => rfl)) pe_int (fun _ _ => rfl)) (pe_ix ix_tup (pv 11) pe_int (fun _ _ => rfl)) (nomark _)) (pe_one (pe_cmpR op_eq (pe_op op_mod (pe_callTy call_int1 (by rfl) (f_int c) (by decide +kernel) (pa_cons (pv 12) pa_nil)) pe_int) pe_int (nomark _)))))
    (pss_one (ps_expr (pe_bm PySem.F.plainAttrs_list PySem.F.slot_list_append PySem.F.type_list_append mt_append (pv 3) (pa_cons (pe_ifExp (pt_val (pv 13)) (pe_op op_fdiv (pv 12) pe_int) pe_non) pa_nil)))))) pss_nil))))))))))
    (pss_one (ps_ret (pe_tup (pa_cons (pv 2) (pa_cons (pv 3) pa_nil)))))))), ?_⟩
  intro z nz
  have s1 := same_upd nz (o := .dK [])
  refine ⟨_, rfl, by show 2 ≤ sizeLine; decide, fun t nt => ?_⟩
  have s2 := same_upd nt (o := .tup [V.int 1, V.int 0])
  refine ⟨s2 _ _ upd_same, [(.inl root, .ref t)], rfl, (show 1 ≤ 15 by decide), ?_⟩
  have em : mergeK [] [((.inl root : Key), V.ref t)] = [(.inl root, .ref t)] := rfl
  rw [em]
  have fz : H z = none := nz
  have tup1 : (upd (upd (upd H z (.dK [])) t (.tup [V.int 1, V.int 0])) z (.dK [(.inl root, .ref t)])) t = some (.tup [V.int 1, V.int 0]) := by
    rw [upd_ne (ne_of upd_same (s2 _ _ upd_same) (by intro q; cases q))]
    exact upd_same
  have s3 : Same H (upd (upd (upd H z (.dK [])) t (.tup [V.int 1, V.int 0])) z (.dK [(.inl root, .ref t)])) := same_set (s1.trans s2) nz
  have hz3 : (upd (upd (upd H z (.dK [])) t (.tup [V.int 1, V.int 0])) z (.dK [(.inl root, .ref t)])) z = some (.dK [(.inl root, .ref t)]) := upd_same
  revert tup1 s3 hz3
  generalize upd (upd (upd H z (.dK [])) t (.tup [V.int 1, V.int 0])) z (.dK [(.inl root, .ref t)]) = H3
  intro tup1 s3 hz3
  refine ⟨Nat.zero_le _, fun n nn => ⟨_, rfl, by show 1 ≤ sizeLine; decide, fun d nd => ⟨_, _, _, rfl, ?_⟩⟩⟩
  have fn : H n = none := s3.free nn
  have fd : H d = none := (s3.trans (same_upd nn (o := .lst []))).free nd
  have nnd : n ≠ d := ne_of_none upd_same nd
  have I0 : WebI H (upd (upd H3 n (.lst [])) d (.lst [V.int root])) z n d (Lad.web0 root) := by
    have sx := (same_upd nn (o := .lst [])).trans (same_upd nd (o := .lst [V.int root]))
    exact ⟨⟨_, sx _ _ hz3, .cons ⟨rfl, t, rfl, sx _ _ tup1⟩ .nil⟩, same_upd nd _ _ upd_same, upd_same, nnd, fz, fn, fd, s3.trans sx⟩
  revert I0
  generalize upd (upd H3 n (.lst [])) d (.lst [V.int root]) = H4
  intro I0
  obtain ⟨w0, w1⟩ := Lad.web0_ok (B := B) (ps := ps) hroot
  let c0 := 2 * ps.length
  refine ⟨fun m σ H' => ∃ (wb : Lad.Web) (z5 z6 z7 z8 z9 z10 z11 z12 z13 : Option V), σ = [some (.ref W), some (.int root), some (.ref z), some (.ref n), some (.ref d), z5, z6, z7, z8, z9, z10, z11, z12, z13] ∧ WebI H H' z n d wb ∧ Lad.WInv ps B Qp root wb ∧ Lad.Done ps wb ∧ wb.notes.length + Lad.dg ps wb.todo ≤ Lad.dg ps (wb.signs.map (·.1)) ∧ wb.todo.length ≤ 2 * wb.signs.length ∧ m = 2 * N - 2 * wb.signs.length + wb.todo.length, ⟨_, _, _, _, _, _, _, _, _, _, _, rfl, I0, w0, w1, by simp [Lad.web0], by simp [Lad.web0], rfl⟩, ?_⟩
  intro m σ H1 hw
  obtain ⟨wb, z5, z6, z7, z8, z9, z10, z11, z12, z13, rfl, I, wi, wd, hnb, htb, hm⟩ := hw
  refine ⟨_, rfl, Nat.zero_le _, fun e ne => ?_⟩
  have se := same_upd ne (o := .lst [])
  refine ⟨d, e, _, rfl, rfl, .of (se _ _ I.td), .of upd_same, _, rfl, ?_⟩
  have I2 := I.grow se
  revert I2
  generalize upd H1 e (.lst []) = H2
  intro I2
  have hlN := hNw wb wi
  by_cases ht : wb.todo = []
  · rw [ht]
    refine ifN (by rw [List.map_nil]; rfl) ?_
    refine ⟨_, rfl, _, rfl, by show 2 ≤ sizeLine; decide, fun p np => ?_⟩
    have sp := same_upd np (o := .tup [V.ref z, V.ref n])
    obtain ⟨q1, q2, q3, q4, q5, q6, q7, q8⟩ := I2.grow sp
    have eqw : wb = ⟨wb.signs, wb.notes, []⟩ := by rw [← ht]
    have hdg := Lad.dg_le ps wi.nd
    exact hQ z n wb.signs wb.notes p _ q8 fn (by omega) ⟨by rw [← eqw]; exact wi, by rw [← eqw]; exact wd⟩ upd_same q1 q2
  · obtain ⟨ys, pl, et⟩ : ∃ ys pl, wb.todo = ys ++ [pl] := ⟨wb.todo.dropLast, wb.todo.getLast ht, (List.dropLast_concat_getLast ht).symm⟩
    have emp : (wb.todo.map V.int).isEmpty = false := by rw [et, List.map_append]; cases ys <;> rfl
    refine ifY (by rw [emp]; rfl) ?_
    obtain ⟨ws1, ws2, ws3⟩ := Lad.webStep_ok hO hB hQp wi wd ht
    obtain ⟨own, hown⟩ := Option.isSome_iff_exists.mp (wi.todo pl (by rw [et]; simp))
    have est : Lad.webStep ps wb = (Lad.nbrs ps pl).foldl (Lad.edgeStep own) ⟨wb.signs, wb.notes, ys⟩ := by
      unfold Lad.webStep
      rw [et, List.getLast?_append, List.getLast?_singleton]
      simp only [Option.some_or]
      rw [hown, List.dropLast_concat]
      rfl
    refine ⟨fun σ' H' => ∃ (wb : Lad.Web) (z5 z6 z7 z8 z9 z10 z11 z12 z13 : Option V), σ' = [some (.ref W), some (.int root), some (.ref z), some (.ref n), some (.ref d), z5, z6, z7, z8, z9, z10, z11, z12, z13] ∧ WebI H H' z n d wb ∧ Lad.WInv ps B Qp root wb ∧ Lad.Done ps wb ∧ wb.notes.length + Lad.dg ps wb.todo ≤ Lad.dg ps (wb.signs.map (·.1)) ∧ wb.todo.length ≤ 2 * wb.signs.length ∧ 2 * N - 2 * wb.signs.length + wb.todo.length < m, fun σ' H' h => ?_, ?_⟩
    · obtain ⟨wb', z5, z6, z7, z8, z9, z10, z11, z12, z13, e1, e2, e3, e4, e5, e5b, e6⟩ := h
      exact ⟨_, e6, wb', z5, z6, z7, z8, z9, z10, z11, z12, z13, e1, e2, e3, e4, e5, e5b, rfl⟩
    have htd := I2.td
    rw [et, List.map_append] at htd
    refine ⟨_, rfl, .inl ⟨rfl, _, .of htd⟩, d, _, V.int pl, rfl, rfl, htd, ?_, ?_⟩
    · rw [List.length_append]
      simp
    rw [show (ys.map V.int ++ [pl].map V.int).dropLast = ys.map V.int from by simp]
    have I3 := webI_pop (ys := ys) I2
    revert I3
    generalize upd H2 d (.lst (ys.map V.int)) = H3
    intro I3
    obtain ⟨kvs, hk, hpk⟩ := I3.sg
    have hg := signs_get hpk pl
    rw [show (Lad.Web.signs ⟨wb.signs, wb.notes, ys⟩).lookup pl = some own from hown] at hg
    obtain ⟨vp, hvp, qp, rfl, hqp⟩ : ∃ vp, valV kvs (.inl pl) = some vp ∧ SgAt H3 vp own := by
      cases hv : valV kvs (.inl pl) with
      | none => rw [hv] at hg; cases hg
      | some vp =>
        rw [hv] at hg
        obtain ⟨so, e1, e2⟩ := hg
        cases e1
        exact ⟨vp, rfl, e2⟩
    have dg := DGet.k (k := .inl pl) hk
    rw [hvp] at dg
    refine ⟨_, rfl, _, rfl, z, _, rfl, dg, qp, _, rfl, .of hqp, rfl, _, _, rfl, _, _, rfl, rfl, ?_⟩
    obtain ⟨wkv, hWd, hWn⟩ := hW
    refine ⟨_, rfl, W, rfl, .inl ⟨_, .inl (I3.sm _ _ hWd)⟩, _, rfl, Nat.zero_le _, fun e2 ne2 => ?_⟩
    have se2 := same_upd ne2 (o := .lst [])
    have I4 := I3.grow se2
    obtain ⟨ae, ue, eqe, hae, pee⟩ := webs_get (hWn.keep (fun q us h => I4.sm _ _ h) (Tu.of I4.sm)) pl (upd_same (H := H3) (a := e2) (o := .lst []))
    refine ⟨_, DGet.k (k := .inl pl) (I4.sm _ _ hWd), ?_⟩
    rw [eqe]
    have hne : ae ≠ n ∧ ae ≠ d := by
      have h0 := hWn.2.2 pl
      cases hv : valV wkv (.inl pl) with
      | none =>
        rw [hv] at eqe
        have : e2 = ae := V.ref.inj eqe
        subst this
        exact ⟨(fun q => by rw [q, I3.no] at ne2; cases ne2), (fun q => by rw [q, I3.td] at ne2; cases ne2)⟩
      | some v =>
        rw [hv] at h0 eqe
        obtain ⟨_, a0, us0, rfl, hl0, _⟩ := h0
        have : a0 = ae := V.ref.inj eqe
        subst this
        exact ⟨ne_of_none hl0 fn, ne_of_none hl0 fd⟩
    revert I4 hae pee
    generalize upd H3 e2 (.lst []) = H4
    intro I4 hae pee
    have lene := pair_len pee
    have hone := wi.one _ (Lad.lookup_mem hown)
    simp only at hone
    refine ⟨ae, rfl, ⟨_, .of hae⟩, ?_⟩
    have hnz : ae ≠ z := by
      obtain ⟨kv4, hk4, _⟩ := I4.sg
      exact ne_of hae hk4 (by intro q; cases q)
    have bnd0 : wb.notes.length + Lad.dg ps ys + (Lad.nbrs ps pl).length ≤ Lad.dg ps (wb.signs.map (·.1)) := by
      rw [et, Lad.dg_app, Lad.dg_one] at hnb
      omega
    have lenN := nbrs_len ps pl
    have I0w : Lad.WInv ps B Qp root ⟨wb.signs, wb.notes, ys⟩ := ⟨wi.rt, wi.nd, wi.one, wi.say, wi.no, wi.so, fun q hq => wi.todo q (by rw [et]; exact List.mem_append_left _ hq), wi.bd, wi.from_, wi.nb⟩
    have hwcs : ∀ (j : Nat) (wc : Lad.Web), wc = ((Lad.nbrs ps pl).take j).foldl (Lad.edgeStep own) ⟨wb.signs, wb.notes, ys⟩ → Lad.WInv ps B Qp root wc := fun j wc e => by
      rw [e]
      exact (Lad.edges_ok hO hQp (p := pl) (own := own) ((Lad.nbrs ps pl).take j) ⟨wb.signs, wb.notes, ys⟩ I0w hown fun e he => ⟨List.mem_of_mem_take he, hB pl e (List.mem_of_mem_take he)⟩).1
    have hTod : ∀ (j : Nat) (wc : Lad.Web), wc = ((Lad.nbrs ps pl).take j).foldl (Lad.edgeStep own) ⟨wb.signs, wb.notes, ys⟩ → wc.todo.length ≤ 1000000 := fun j wc e => by
      have h7 := (Lad.edges_ok hO hQp (p := pl) (own := own) ((Lad.nbrs ps pl).take j) ⟨wb.signs, wb.notes, ys⟩ I0w hown fun e he => ⟨List.mem_of_mem_take he, hB pl e (List.mem_of_mem_take he)⟩).2.2.2.2.2.2.1
      rw [← e] at h7
      simp only at h7
      have h8 := hNw wc (hwcs j wc e)
      rw [et, List.length_append, List.length_singleton] at htb
      omega
    refine for_it (walk_list (xs := ue)) (fun j σ H' => ∃ (wc : Lad.Web) (z8 z9 z10 z11 z12 z13 : Option V), σ = [some (.ref W), some (.int root), some (.ref z), some (.ref n), some (.ref d), some (.int pl), some (.int own.1), some (.int own.2), z8, z9, z10, z11, z12, z13] ∧ wc = ((Lad.nbrs ps pl).take j).foldl (Lad.edgeStep own) ⟨wb.signs, wb.notes, ys⟩ ∧ WebI H H' z n d wc ∧ H' ae = some (.lst ue) ∧ Paired (EdAt H') ue (Lad.nbrs ps pl) ∧
        wc.notes.length + Lad.dg ps wc.todo + (Lad.nbrs ps pl).length ≤ Lad.dg ps (wc.signs.map (·.1)) + j) ⟨_, _, _, _, _, _, _, rfl, rfl, I4, hae, pee, bnd0⟩ (fun j σ H' _ e => by
      obtain ⟨_, _, _, _, _, _, _, _, _, _, e, _⟩ := e
      exact SqL.of (K := K) e) (fun j x σ H5 H6 hj q hy => ?_) (fun σ H5 q => ?_)
    · obtain ⟨wc, z8, z9, z10, z11, z12, z13, rfl, ewc, I5, hae5, pe5, hb5⟩ := q
      obtain ⟨rfl, hy⟩ := hy
      obtain ⟨eg, heg, px, rfl, hpx⟩ := pair_get pe5 hy
      have hegm := List.mem_of_getElem? heg
      have eone := Lad.edge_one hO hegm
      refine ⟨px, _, rfl, .of hpx, rfl, _, _, rfl, _, _, rfl, _, _, rfl, rfl, ?_⟩
      refine ⟨_, rfl, _, rfl, _, _, rfl, rfl, .inl ⟨by omega, by omega⟩, _, rfl, _, rfl, _, rfl, _, _, rfl, rfl, .inl ⟨by omega, by omega⟩, _, _, rfl, rfl, by show 2 ≤ sizeLine; decide, fun p np => ?_⟩
      have ecome : Lad.comeOf own eg = (eg.2.1 * own.1, eg.2.2 + eg.2.1 * own.2) := rfl
      have sp := same_upd np (o := .tup [V.int (eg.2.1 * own.1), V.int (eg.2.2 + eg.2.1 * own.2)])
      have I6 := I5.grow sp
      have hae6 := sp _ _ hae5
      have pe6 := pair_mono pe5 fun _ _ y => y.tu (Tu.of sp)
      have hp6 := @upd_same H6 p (.tup [V.int (eg.2.1 * own.1), V.int (eg.2.2 + eg.2.1 * own.2)])
      revert I6 hae6 pe6 hp6
      generalize upd H6 p (.tup [V.int (eg.2.1 * own.1), V.int (eg.2.2 + eg.2.1 * own.2)]) = H7
      intro I6 hae6 pe6 hp6
      obtain ⟨kv6, hk6, hp6s⟩ := I6.sg
      have etk : (Lad.nbrs ps pl).take (j + 1) = (Lad.nbrs ps pl).take j ++ [eg] := by rw [List.take_add_one, heg]; rfl
      have estep : ((Lad.nbrs ps pl).take (j + 1)).foldl (Lad.edgeStep own) ⟨wb.signs, wb.notes, ys⟩ = Lad.edgeStep own wc eg := by
        rw [etk, List.foldl_append, ← ewc]
        rfl
      refine ⟨_, rfl, _, rfl, z, _, rfl, DGet.k (k := .inl eg.1) hk6, _, rfl, ?_⟩
      have hg6 := signs_get hp6s eg.1
      cases hv6 : valV kv6 (.inl eg.1) with
      | none =>
        rw [hv6] at hg6
        refine ifY rfl ?_
        have hwc := hwcs j wc ewc
        have hcN := hNw wc hwc
        have hl6 := pair_len hp6s
        have I7 := webI_new I6 hk6 hp6s (so := Lad.comeOf own eg) (v := .ref p) (q := eg.1) ⟨p, rfl, hp6⟩
        have nzd : d ≠ z := ne_of I6.td hk6 (by intro q; cases q)
        have hd7 : (upd H7 z (.dK (kv6 ++ [(.inl eg.1, .ref p)]))) d = some (.lst (wc.todo.map V.int)) := by rw [upd_ne nzd]; exact I6.td
        refine ⟨_, rfl, _, rfl, _, rfl, z, _, rfl, .inl ⟨kv6, .inl eg.1, hk6, rfl, lt_line (by omega), by rw [put_new hv6]⟩, ?_⟩
        have hml : wc.todo.length ≤ 1000000 := hTod j wc ewc
        refine ⟨_, rfl, .inl ⟨rfl, _, .of hd7⟩, _, rfl, d, _, _, rfl, rfl, hd7, by rw [List.length_map, sizeLine_eq]; omega, ?_⟩
        have eW : Lad.edgeStep own wc eg = ⟨wc.signs ++ [(eg.1, Lad.comeOf own eg)], wc.notes, wc.todo ++ [eg.1]⟩ := by
          unfold Lad.edgeStep
          rw [show wc.signs.lookup eg.1 = none from hg6]
        have tu7 : Tu H7 (upd (upd H7 z (.dK (kv6 ++ [(.inl eg.1, .ref p)]))) d (.lst (wc.todo.map V.int ++ [V.int eg.1]))) := fun x us e => by
          rw [upd_ne (ne_of e I6.td (by intro q; cases q)), upd_ne (ne_of e hk6 (by intro q; cases q))]
          exact e
        refine ⟨⟨wc.signs ++ [(eg.1, Lad.comeOf own eg)], wc.notes, wc.todo ++ [eg.1]⟩, _, _, _, _, _, _, rfl, (estep.trans eW).symm, ?_, ?_, pair_mono pe6 fun _ _ y => y.tu tu7, ?_⟩
        · have := I7
          rw [List.map_append] at this
          exact this
        · rw [upd_ne hne.2, upd_ne hnz]
          exact hae6
        · simp only [List.map_append, List.map_cons, List.map_nil, Lad.dg_app, Lad.dg_one]
          omega
      | some v6 =>
        rw [hv6] at hg6
        obtain ⟨so, hso, ps6, rfl, hps6⟩ := hg6
        refine ifN rfl ?_
        have dg6 := DGet.k (k := .inl eg.1) hk6
        rw [hv6] at dg6
        refine ⟨_, rfl, _, rfl, z, _, rfl, dg6, _, rfl, pairD so.1 so.2, pairD (eg.2.1 * own.1) (eg.2.2 + eg.2.1 * own.2), pair_dp hps6, pair_dp hp6, rfl, rfl, _, rfl, ?_⟩
        rw [pair_eqv]
        by_cases hsc : so = Lad.comeOf own eg
        · refine ifN (by rw [show ((so.1, so.2) : Int × Int) = (eg.2.1 * own.1, eg.2.2 + eg.2.1 * own.2) from hsc, decide_eq_true rfl]; rfl) ?_
          have eW : Lad.edgeStep own wc eg = wc := by
            unfold Lad.edgeStep
            rw [hso]
            simp only
            rw [if_pos hsc]
          exact ⟨wc, _, _, _, _, _, _, rfl, (estep.trans eW).symm, I6, hae6, pe6, by omega⟩
        · refine ifY (by rw [decide_eq_false (show ¬ ((so.1, so.2) : Int × Int) = (eg.2.1 * own.1, eg.2.2 + eg.2.1 * own.2) from hsc)]; rfl) ?_
          have oc : eg.2.1 * own.1 = 1 ∨ eg.2.1 * own.1 = -1 := Lad.Ones.mul eone hone
          refine ⟨_, rfl, p, _, _, _, rfl, rfl, .of hp6, rfl, _, rfl, _, rfl, z, _, rfl, dg6, ps6, _, _, _, rfl, rfl, .of hps6, rfl, _, rfl, p, _, _, _, rfl, rfl, .of hp6, rfl, _, _, rfl, rfl, _, _, rfl, rfl, .inl ⟨by omega, by omega⟩, ?_⟩
          have hnb7 : (wc.notes.map optV).length < sizeLine := by
            rw [List.length_map, sizeLine_eq]
            have h1 := Lad.dg_le ps (hwcs j wc ewc).nd
            omega
          have nxt : ∀ o : Option Int, o = Lad.noteOf so (Lad.comeOf own eg) → ∃ (wc' : Lad.Web), wc' = ((Lad.nbrs ps pl).take (j + 1)).foldl (Lad.edgeStep own) ⟨wb.signs, wb.notes, ys⟩ ∧ WebI H (upd H7 n (.lst (wc.notes.map optV ++ [optV o]))) z n d wc' ∧ (upd H7 n (.lst (wc.notes.map optV ++ [optV o]))) ae = some (.lst ue) ∧ Paired (EdAt (upd H7 n (.lst (wc.notes.map optV ++ [optV o])))) ue (Lad.nbrs ps pl) ∧
              wc'.notes.length + Lad.dg ps wc'.todo + (Lad.nbrs ps pl).length ≤ Lad.dg ps (wc'.signs.map (·.1)) + (j + 1) := fun o ho => by
            have eW : Lad.edgeStep own wc eg = ⟨wc.signs, wc.notes ++ [o], wc.todo⟩ := by
              unfold Lad.edgeStep
              rw [hso]
              simp only
              rw [if_neg hsc, ho]
            refine ⟨⟨wc.signs, wc.notes ++ [o], wc.todo⟩, (estep.trans eW).symm, webI_note I6, ?_, ?_, ?_⟩
            · rw [upd_ne hne.1]; exact hae6
            · exact pair_mono pe6 fun _ _ y => y.tu fun x us e => by rw [upd_ne (ne_of e I6.no (by intro q; cases q))]; exact e
            · simp only [List.length_append, List.length_singleton]
              omega
          have fin : ∀ o : Option Int, o = Lad.noteOf so (Lad.comeOf own eg) → ∀ (y12 y13 : Option V), ∃ (wc' : Lad.Web) (z8 z9 z10 z11 z12 z13 : Option V), [some (V.ref W), some (V.int root), some (V.ref z), some (V.ref n), some (V.ref d), some (V.int pl), some (V.int own.1), some (V.int own.2), some (V.int eg.1), some (V.int eg.2.1), some (V.int eg.2.2), some (V.ref p), y12, y13] = [some (.ref W), some (.int root), some (.ref z), some (.ref n), some (.ref d), some (.int pl), some (.int own.1), some (.int own.2), z8, z9, z10, z11, z12, z13] ∧ wc' = ((Lad.nbrs ps pl).take (j + 1)).foldl (Lad.edgeStep own) ⟨wb.signs, wb.notes, ys⟩ ∧ WebI H (upd H7 n (.lst (wc.notes.map optV ++ [optV o]))) z n d wc' ∧ (upd H7 n (.lst (wc.notes.map optV ++ [optV o]))) ae = some (.lst ue) ∧ Paired (EdAt (upd H7 n (.lst (wc.notes.map optV ++ [optV o])))) ue (Lad.nbrs ps pl) ∧
              wc'.notes.length + Lad.dg ps wc'.todo + (Lad.nbrs ps pl).length ≤ Lad.dg ps (wc'.signs.map (·.1)) + (j + 1) := fun o ho y12 y13 => by
            obtain ⟨wc', q1, q2, q3, q4, q5⟩ := nxt o ho
            exact ⟨wc', _, _, _, _, _, _, rfl, q1, q2, q3, q4, q5⟩
          by_cases h1 : so.1 = eg.2.1 * own.1
          · refine ⟨_, rfl, _, rfl, z, _, rfl, dg6, ps6, _, _, _, rfl, rfl, .of hps6, rfl, _, rfl, p, _, _, _, rfl, rfl, .of hp6, rfl, rfl, _, rfl, ifN (by rw [h1, decide_eq_true rfl]; rfl) ?_⟩
            refine ⟨_, rfl, .inl ⟨rfl, _, .of I6.no⟩, _, rfl, _, rfl, ifN rfl ⟨n, _, _, rfl, rfl, I6.no, hnb7, fin none ?_ _ _⟩⟩
            unfold Lad.noteOf
            rw [if_neg (fun q => q.1 h1)]
          · refine ⟨_, rfl, _, rfl, z, _, rfl, dg6, ps6, _, _, _, rfl, rfl, .of hps6, rfl, _, rfl, p, _, _, _, rfl, rfl, .of hp6, rfl, rfl, _, rfl, ifY (by rw [decide_eq_false (fun q => h1 (V.int.inj q))]; rfl) ?_⟩
            refine ⟨_, rfl, .inl ⟨_, rfl, _, _, rfl, rfl, (by decide : (0 : Int) < 2), rfl, ?_⟩⟩
            by_cases h2 : (eg.2.1 * own.1 * (so.2 - (eg.2.2 + eg.2.1 * own.2))) % 2 = 0
            · refine ⟨_, rfl, .inl ⟨rfl, _, .of I6.no⟩, _, rfl, _, rfl, ifY (decide_eq_true (congrArg V.int h2)) ⟨_, rfl, _, _, rfl, rfl, ⟨by decide, by decide⟩, n, _, _, rfl, rfl, I6.no, hnb7, fin (some _) ?_ _ _⟩⟩
              unfold Lad.noteOf
              rw [if_pos ⟨h1, h2⟩]
              rfl
            · refine ⟨_, rfl, .inl ⟨rfl, _, .of I6.no⟩, _, rfl, _, rfl, ifN (decide_eq_false (fun q => h2 (V.int.inj q))) ⟨n, _, _, rfl, rfl, I6.no, hnb7, fin none ?_ _ _⟩⟩
              unfold Lad.noteOf
              rw [if_neg (fun q => h2 q.2)]
    · obtain ⟨wc, z8, z9, z10, z11, z12, z13, rfl, ewc, I5, hae5, pe5, hb5⟩ := q
      have el : (Lad.nbrs ps pl).take ue.length = Lad.nbrs ps pl := List.take_of_length_le (by omega)
      rw [el, ← est] at ewc
      subst ewc
      refine ⟨_, _, _, _, _, _, _, _, _, _, rfl, I5, ws1, ws2, by omega, by omega, ?_⟩
      have := hNw _ ws1
      omega
end
end TT

-- M21
set_option linter.all false
set_option maxRecDepth 10000
namespace Lad
/-! lores: how many places are met, which amounts come -/
theorem nodup_len : ∀ (n : Nat) (l : List Int), l.Nodup → (∀ p ∈ l, 0 ≤ p ∧ p < n) → l.length ≤ n
  | 0, l, _, h => by
    cases l with
    | nil => exact Nat.le_refl _
    | cons a l => have := h a List.mem_cons_self; omega
  | n + 1, l, hn, h => by
    have h1 := nodup_len n (l.erase (n : Int)) (hn.erase _) fun p hp => by
      obtain ⟨q1, q2⟩ := (List.Nodup.mem_erase_iff hn).mp hp
      have := h p q2
      omega
    have h2 : l.length ≤ (l.erase (n : Int)).length + 1 := by
      rw [List.length_erase]
      split <;> omega
    omega
theorem nodup_map {f : Int → Int} : ∀ {l : List Int}, (∀ a ∈ l, ∀ b ∈ l, f a = f b → a = b) → l.Nodup → (l.map f).Nodup
  | [], _, _ => List.nodup_nil
  | a :: l, hf, h => by
    obtain ⟨h1, h2⟩ := List.nodup_cons.mp h
    rw [List.map_cons]
    refine List.nodup_cons.mpr ⟨fun hm => ?_, nodup_map (fun x hx y hy => hf x (List.mem_cons_of_mem _ hx) y (List.mem_cons_of_mem _ hy)) h2⟩
    obtain ⟨b, hb, e⟩ := List.mem_map.mp hm
    have := hf a List.mem_cons_self b (List.mem_cons_of_mem _ hb) e.symm
    rw [this] at h1
    exact h1 hb
theorem row_met {n : Int} {rs : List Row} (hr : ∀ r ∈ rs, RowOk n r) {ks : Known} (hk : ∀ k ∈ ks, 0 ≤ k.1 ∧ k.1 < n) {p : Int} (h : Met (pairsOf rs) ks p) : 0 ≤ p ∧ p < n := by
  rcases h with h | ⟨k, h, e⟩
  · obtain ⟨e, he⟩ := List.exists_mem_of_ne_nil _ h
    obtain ⟨z, hz, hh⟩ := mem_nbrs.mp he
    obtain ⟨r, hr1, hz⟩ := List.mem_flatMap.mp hz
    have O := hr r hr1
    obtain ⟨k, k0, k1, rfl⟩ := (mem_rowPairs O.l1).mp hz
    have a1 := O.f0
    have a2 := O.fe
    have a3 := O.s0
    have a4 := O.se
    rcases hh with ⟨e1, _⟩ | ⟨e1, _⟩
    · rw [← e1]
      show 0 ≤ r.f + k ∧ r.f + k < n
      omega
    · rw [← e1]
      show 0 ≤ r.par k ∧ r.par k < n
      unfold Row.par
      split <;> omega
  · rw [← e]
    exact hk k h
/-- how many places are met, at most -/
def Few (ps : List Pr) (ks : Known) (n : Nat) : Prop := ∀ l : List Int, l.Nodup → (∀ p ∈ l, Met ps ks p) → l.length ≤ n
theorem few_rows {n : Int} {rs : List Row} (hr : ∀ r ∈ rs, RowOk n r) {ks : Known} (hk : ∀ k ∈ ks, 0 ≤ k.1 ∧ k.1 < n) {m : Nat} (hm : n ≤ m) : Few (pairsOf rs) ks m := fun l hl h =>
  nodup_len m l hl fun p hp => by
    have := row_met hr hk (h p hp)
    omega
theorem few_block {w o n : Int} (hw : 1 ≤ w) (o0 : 0 ≤ o) (o1 : o < w) {rs : List Row} (hr : ∀ r ∈ rs, RowOk n r) {m : Nat} (hm : n ≤ m) : Few (blockPairs w o rs) [] (2 * m) := fun l hl h => by
  have key : ∀ p ∈ l, (0 ≤ p / w ∧ p / w < n) ∧ (p % w = o ∨ p % w = w - 1 - o) := fun p hp => by
    obtain ⟨⟨p0, p1⟩, p2⟩ := block_met hw o0 o1 hr (h p hp)
    exact ⟨⟨Int.ediv_nonneg p0 (by omega), Int.ediv_lt_of_lt_mul (by omega) p1⟩, p2⟩
  have h1 := nodup_map (f := fun p => 2 * (p / w) + if p % w = o then 0 else 1) (l := l) (fun a ha b hb e => by
    obtain ⟨_, a2⟩ := key a ha
    obtain ⟨_, b2⟩ := key b hb
    have e' : 2 * (a / w) + (if a % w = o then 0 else 1) = 2 * (b / w) + (if b % w = o then 0 else 1) := e
    have e1 : a / w = b / w ∧ a % w = b % w := by
      by_cases c1 : a % w = o <;> by_cases c2 : b % w = o
      · rw [if_pos c1, if_pos c2] at e'; exact ⟨by omega, by omega⟩
      · rw [if_pos c1, if_neg c2] at e'; omega
      · rw [if_neg c1, if_pos c2] at e'; omega
      · rw [if_neg c1, if_neg c2] at e'; exact ⟨by omega, by omega⟩
    have ea := Int.mul_ediv_add_emod a w
    have eb := Int.mul_ediv_add_emod b w
    rw [← ea, ← eb, e1.1, e1.2]) hl
  have h2 := nodup_len (2 * m) _ h1 fun q hq => by
    obtain ⟨p, hp, rfl⟩ := List.mem_map.mp hq
    obtain ⟨⟨k0, k1⟩, _⟩ := key p hp
    show 0 ≤ 2 * (p / w) + (if p % w = o then 0 else 1) ∧ 2 * (p / w) + (if p % w = o then 0 else 1) < ((2 * m : Nat) : Int)
    split <;> omega
  rwa [List.length_map] at h2
theorem ones_rows (rs : List Row) : Ones (pairsOf rs) := fun z hz => by
  obtain ⟨r, _, hz⟩ := List.mem_flatMap.mp hz
  unfold rowPairs at hz
  obtain ⟨k, _, rfl⟩ := List.mem_map.mp hz
  show sg r.d = 1 ∨ sg r.d = -1
  unfold sg
  cases r.d
  · exact .inl rfl
  · exact .inr rfl
theorem ones_block (w o : Int) (rs : List Row) : Ones (blockPairs w o rs) := fun z hz => by
  obtain ⟨r, hr, y, hy, t, rfl⟩ := mem_block.mp hz
  exact ones_rows rs y (List.mem_flatMap.mpr ⟨r, hr, hy⟩)
theorem amount_rows {rs : List Row} {B : Nat} (h : ∀ r ∈ rs, r.a.natAbs ≤ B) : ∀ z ∈ pairsOf rs, z.a.natAbs ≤ B := fun z hz => by
  obtain ⟨r, hr, hz⟩ := List.mem_flatMap.mp hz
  unfold rowPairs at hz
  obtain ⟨k, _, rfl⟩ := List.mem_map.mp hz
  exact h r hr
theorem amount_block {w o : Int} {rs : List Row} {B : Nat} (h : ∀ r ∈ rs, r.a.natAbs ≤ B) : ∀ z ∈ blockPairs w o rs, z.a.natAbs ≤ B := fun z hz => by
  obtain ⟨r, hr, y, hy, t, rfl⟩ := mem_block.mp hz
  exact amount_rows h y (List.mem_flatMap.mpr ⟨r, hr, hy⟩)
theorem rowPairs_len (r : Row) : (rowPairs r).length = r.l.toNat := by
  unfold rowPairs
  rw [List.length_map, List.length_range]
theorem pairs_len {rs : List Row} {m : Nat} (h : ∀ r ∈ rs, r.l ≤ m) : (pairsOf rs).length ≤ rs.length * m := by
  induction rs with
  | nil => exact Nat.zero_le _
  | cons r rs ih =>
    have h1 := h r List.mem_cons_self
    have h2 := ih fun q hq => h q (List.mem_cons_of_mem _ hq)
    unfold pairsOf at h2 ⊢
    rw [List.flatMap_cons, List.length_append, List.length_cons, rowPairs_len, Nat.add_mul, Nat.one_mul]
    omega
theorem block_len (w o : Int) : ∀ rs : List Row, (blockPairs w o rs).length = 2 * (pairsOf rs).length
  | [] => rfl
  | r :: rs => by
    have ih := block_len w o rs
    have h1 : ∀ l : List Pr, (l.flatMap (blockPair w o r.b)).length = 2 * l.length := fun l => by
      induction l with
      | nil => rfl
      | cons z l ih =>
        rw [List.flatMap_cons, List.length_append, List.length_cons, ih]
        show 2 + 2 * l.length = _
        omega
    unfold blockPairs pairsOf at ih ⊢
    rw [List.flatMap_cons, List.flatMap_cons, List.length_append, List.length_append, h1, ih]
    omega
/-- what is settled is kept by some notes -/
theorem sok_sat {ps : List Pr} (hO : Ones ps) {ks : Known} {M : Nat} {F : Found} (S : SOk ps ks M F) (hall : ∀ p, Met ps ks p → (F.lookup p).isSome = true) : ∃ x, PSat ps x ∧ KSat ks x := by
  obtain ⟨x, hx, _⟩ := (settle_nf hO S hall).free fun _ => 0
  exact ⟨x, hx⟩
theorem sok_bd {ps : List Pr} {ks : Known} {M : Nat} {F : Found} (S : SOk ps ks M F) (p : Int) : absA ((F.lookup p).getD (.hang false p 0)) ≤ M := by
  cases h : F.lookup p with
  | none => exact Nat.zero_le _
  | some a => exact S.bd p a h
/-- a lore that some melodies keep -/
structure LoreOk (n : Int) (rs : List Row) (ks : Known) (B : Nat) : Prop where
  n1 : 1 ≤ n
  n14 : n ≤ 14
  rows : ∀ r ∈ rs, RowOk n r
  kn : ∀ k ∈ ks, 0 ≤ k.1 ∧ k.1 < n
  ba : ∀ r ∈ rs, r.a.natAbs ≤ B
  bk : ∀ k ∈ ks, k.2.natAbs ≤ B
  sat : ∃ x, PSat (pairsOf rs) x ∧ KSat ks x
theorem LoreOk.mono {n : Int} {rs : List Row} {ks : Known} {B B' : Nat} (h : LoreOk n rs ks B) (hB : B ≤ B') : LoreOk n rs ks B' :=
  ⟨h.n1, h.n14, h.rows, h.kn, fun r hr => Nat.le_trans (h.ba r hr) hB, fun k hk => Nat.le_trans (h.bk k hk) hB, h.sat⟩
theorem RowOk.l14 {n : Int} {r : Row} (h : RowOk n r) (hn : n ≤ 14) : r.l ≤ 14 := by
  have := h.f0
  have := h.fe
  omega
theorem pin_row {n : Int} {k : Int × Int} (h : 0 ≤ k.1 ∧ k.1 < n) : RowOk n (pinRow k) := by
  refine ⟨h.1, h.1, Int.le_refl _, ?_, ?_, fun e => by cases e⟩
  · show k.1 + 1 ≤ n; omega
  · show k.1 + 1 ≤ n; omega
theorem LoreOk.all {n : Int} {rs : List Row} {ks : Known} {B : Nat} (h : LoreOk n rs ks B) : (∀ r ∈ allRows rs ks, RowOk n r) ∧ (∀ r ∈ allRows rs ks, r.a.natAbs ≤ 2 * B) := by
  refine ⟨fun r hr => ?_, fun r hr => ?_⟩
  · rcases List.mem_append.mp hr with q | q
    · exact h.rows r q
    · obtain ⟨k, hk, rfl⟩ := List.mem_map.mp q
      exact pin_row (h.kn k hk)
  · rcases List.mem_append.mp hr with q | q
    · have := h.ba r q; omega
    · obtain ⟨k, hk, rfl⟩ := List.mem_map.mp q
      have := h.bk k hk
      show (2 * k.2).natAbs ≤ 2 * B
      omega
theorem LoreOk.big {n : Int} {rs : List Row} {ks : Known} {B : Nat} (h : LoreOk n rs ks B) {w : Int} (hw : 1 ≤ w) : ∃ x, Sat (bigTies w (allRows rs ks)) x := by
  obtain ⟨x, h1, h2⟩ := h.sat
  exact ⟨_, lore_sol hw h.rows h1 h2⟩
theorem LoreOk.block {n : Int} {rs : List Row} {ks : Known} {B : Nat} (h : LoreOk n rs ks B) {w o : Int} (hw : 1 ≤ w) (o0 : 0 ≤ o) (o1 : o < w) : ∃ x, PSat (blockPairs w o (allRows rs ks)) x := by
  obtain ⟨x, hx⟩ := h.big hw
  exact ⟨x, big_pairs hw o0 o1 (h.all).1 hx⟩
end Lad

-- W34
set_option Elab.async false
set_option linter.all false
set_option maxRecDepth 100000
set_option maxHeartbeats 4000000
namespace TT
open PySem PySem.Spec PyProof.Rows L2 SX TL
section
variable {X : Cx} {w : World}
theorem cr_setIw (e : X.w = w) (hc : X.calm = true) : CallR X (.type "set") (rSetI X.K w) := by
  subst e
  exact cr_setI hc
theorem cr_sortedSetw (e : X.w = w) (hc : X.calm = true) : CallR X (.builtin "sorted") (rSortedSet w) := by
  subst e
  exact cr_sortedSet hc
theorem cr_lenSetw (e : X.w = w) : CallR X (.builtin "len") (rLenSet w) := by
  subst e
  exact cr_lenSet
end
theorem val_mem {kvs : List (Key × V)} {k : Key} : (valV kvs k).isSome = true ↔ k ∈ kvs.map (·.1) := by
  rw [← valV_any, List.any_eq_true, List.mem_map]
  constructor
  · rintro ⟨kv, h, e⟩
    exact ⟨kv, h, of_decide_eq_true e⟩
  · rintro ⟨kv, h, e⟩
    exact ⟨kv, h, decide_eq_true e⟩
theorem keys_list : ∀ {kvs : List (Key × V)}, (∀ kv ∈ kvs, ∃ p : Int, kv.1 = .inl p) → ∃ kp : List Int, kvs.map (·.1) = kp.map Sum.inl ∧ kvs.map (fun kv => kV kv.1) = kp.map V.int
  | [], _ => ⟨[], rfl, rfl⟩
  | kv :: kvs, h => by
    obtain ⟨p, e⟩ := h kv List.mem_cons_self
    obtain ⟨kp, h1, h2⟩ := keys_list (kvs := kvs) fun q hq => h q (List.mem_cons_of_mem _ hq)
    refine ⟨p :: kp, ?_, ?_⟩
    · rw [List.map_cons, h1, e]; rfl
    · rw [List.map_cons, h2, e]; rfl
theorem nodup_inl : ∀ {kp : List Int}, (kp.map (Sum.inl : Int → Key)).Nodup → kp.Nodup
  | [], _ => List.nodup_nil
  | a :: l, h => by
    rw [List.map_cons] at h
    obtain ⟨h1, h2⟩ := List.nodup_cons.mp h
    exact List.nodup_cons.mpr ⟨fun q => h1 (List.mem_map.mpr ⟨a, q, rfl⟩), nodup_inl h2⟩
theorem webs_keys {H : Hp} {kvs : List (Key × V)} {m : Nat} {ps : List Lad.Pr} (h : WebsN H kvs m (Lad.nbrs ps)) : ∃ kp : List Int, kvs.map (fun kv => kV kv.1) = kp.map V.int ∧ kp.Nodup ∧ ∀ p, p ∈ kp ↔ Lad.nbrs ps p ≠ [] := by
  obtain ⟨_, ⟨h1, h2⟩, h3⟩ := h
  obtain ⟨kp, e1, e2⟩ := keys_list h1
  refine ⟨kp, e2, ?_, fun p => ?_⟩
  · rw [e1] at h2
    exact nodup_inl h2
  · have a : (Sum.inl p : Key) ∈ kvs.map (·.1) ↔ p ∈ kp := by
      rw [e1, List.mem_map]
      constructor
      · rintro ⟨q, hq, e⟩
        rw [← Sum.inl.inj e]; exact hq
      · intro hq
        exact ⟨p, hq, rfl⟩
    rw [← a, ← val_mem]
    have := h3 p
    cases hv : valV kvs (.inl p) with
    | none =>
      rw [hv] at this
      rw [show Lad.nbrs ps p = [] from this]
      simp
    | some v =>
      rw [hv] at this
      simp [this.1]
/-- the dict of answers, entry for entry -/
def FkAt (H : Hp) (kv : Key × V) (k : Int × Lad.Ans) : Prop := kv.1 = .inl k.1 ∧ AnsAt H kv.2 k.2
def FpAt (H : Hp) (D : Addr) (F : Lad.Found) : Prop := ∃ kvs, H D = some (.dK kvs) ∧ Paired (FkAt H) kvs F
theorem FkAt.tu {H H' : Hp} {kv : Key × V} {k : Int × Lad.Ans} (h : FkAt H kv k) (t : Tu H H') : FkAt H' kv k := ⟨h.1, h.2.tu t⟩
theorem fk_get {H : Hp} {kvs : List (Key × V)} {F : Lad.Found} (h : Paired (FkAt H) kvs F) (p : Int) : match valV kvs (.inl p) with
    | none => F.lookup p = none
    | some v => ∃ a, F.lookup p = some a ∧ AnsAt H v a := by
  induction h with
  | nil => exact rfl
  | @cons kv k kvs F h t ih =>
    obtain ⟨k1, k2⟩ := k
    by_cases e : p = k1
    · rw [valV_pos (show kv.1 = .inl p by rw [h.1, e])]
      refine ⟨k2, ?_, h.2⟩
      simp [List.lookup, e]
    · rw [valV_neg (show ¬ kv.1 = .inl p by rw [h.1]; exact fun q => e (Sum.inl.inj q).symm)]
      have hb : (p == k1) = false := beq_eq_false_iff_ne.mpr e
      simp only [List.lookup, hb]
      exact ih
theorem FpAt.fnd {H : Hp} {D : Addr} {F : Lad.Found} (h : FpAt H D F) (hl : F.length ≤ 5000) : FndAt H D F := by
  obtain ⟨kvs, e, p⟩ := h
  exact ⟨kvs, e, by rw [pair_len p]; exact hl, fk_get p⟩
theorem FpAt.grow {H H' : Hp} {D : Addr} {F : Lad.Found} (h : FpAt H D F) (s : Same H H') : FpAt H' D F := by
  obtain ⟨kvs, e, p⟩ := h
  exact ⟨kvs, s _ _ e, pair_mono p fun _ _ y => y.tu (Tu.of s)⟩
theorem found_none {F : Lad.Found} {k : Int} : F.lookup k = none ↔ k ∉ F.map (·.1) := by
  induction F with
  | nil => simp [List.lookup]
  | cons a l ih =>
    obtain ⟨b, u⟩ := a
    by_cases h : k = b
    · subst h; simp [List.lookup]
    · have hb : (k == b) = false := beq_eq_false_iff_ne.mpr h
      simp only [List.lookup, hb, List.map_cons, List.mem_cons, not_or]
      rw [ih]
      exact ⟨fun z => ⟨h, z⟩, fun z => z.2⟩
theorem found_some {F : Lad.Found} {k : Int} : (F.lookup k).isSome = true ↔ k ∈ F.map (·.1) := by
  have := @found_none F k
  cases h : F.lookup k with
  | none => simp [this.mp h]
  | some v =>
    have h2 : ¬ (k ∉ F.map (·.1)) := fun z => by rw [this.mpr z] at h; cases h
    simp [Classical.not_not.mp h2]
theorem more_snoc (ks : Lad.Known) (k : Int × Int) (signs : Lad.Signs) : Lad.moreNotes (ks ++ [k]) signs = Lad.moreNotes ks signs ++ (match signs.lookup k.1 with
    | some so => [so.1 * (k.2 - so.2)]
    | none => []) := by
  unfold Lad.moreNotes
  rw [List.filterMap_append]
  congr 1
  rw [List.filterMap_cons]
  cases signs.lookup k.1 <;> rfl
theorem all_map (ks : Lad.Known) (signs : Lad.Signs) (notes : List (Option Int)) : notes.map optV ++ (Lad.moreNotes ks signs).map V.int = (Lad.allNotes ks signs notes).map optV := by
  unfold Lad.allNotes
  rw [List.map_append, List.map_map]
  rfl
theorem more_len (ks : Lad.Known) (signs : Lad.Signs) : (Lad.moreNotes ks signs).length ≤ ks.length := List.length_filterMap_le _ _
theorem in_none {l : List (Option Int)} : inV V.non (l.map optV) = true ↔ none ∈ l := by
  unfold inV
  rw [List.any_eq_true]
  constructor
  · rintro ⟨v, hv, e⟩
    obtain ⟨o, ho, rfl⟩ := List.mem_map.mp hv
    cases o with
    | none => exact ho
    | some n => cases e
  · intro h
    exact ⟨V.non, List.mem_map.mpr ⟨none, h, rfl⟩, rfl⟩
theorem all_some : ∀ {l : List (Option Int)}, none ∉ l → ∃ ns : List Int, l = ns.map some
  | [], _ => ⟨[], rfl⟩
  | o :: l, h => by
    obtain ⟨ns, e⟩ := all_some (l := l) fun q => h (List.mem_cons_of_mem _ q)
    cases o with
    | none => exact absurd List.mem_cons_self h
    | some n => exact ⟨n :: ns, by rw [e]; rfl⟩
theorem alike_len {ns l : List Int} (nd : l.Nodup) (mem : ∀ k, (ns.any (· == k)) = true ↔ k ∈ l) : Lad.Alike (ns.map some) ↔ l.length ≤ 1 := by
  have mem' : ∀ k, k ∈ ns ↔ k ∈ l := fun k => by
    rw [← mem, List.any_eq_true]
    constructor
    · intro h
      exact ⟨k, h, beq_self_eq_true _⟩
    · rintro ⟨z, h, e⟩
      rw [← (beq_iff_eq.mp e : z = k)]
      exact h
  constructor
  · rintro (h | ⟨n, h⟩)
    · have e : ns = [] := List.map_eq_nil_iff.mp h
      cases l with
      | nil => exact Nat.zero_le _
      | cons a l =>
        have := (mem' a).mpr List.mem_cons_self
        rw [e] at this
        cases this
    · have all : ∀ k ∈ l, k = n := fun k hk => Option.some.inj (h _ (List.mem_map.mpr ⟨k, (mem' k).mpr hk, rfl⟩))
      cases l with
      | nil => exact Nat.zero_le _
      | cons a l =>
        cases l with
        | nil => exact Nat.le_refl _
        | cons b l =>
          exfalso
          have h1 := all a List.mem_cons_self
          have h2 := all b (List.mem_cons_of_mem _ List.mem_cons_self)
          exact (List.nodup_cons.mp nd).1 (by rw [h1, h2]; exact List.mem_cons_self)
  · intro h
    cases ns with
    | nil => exact .inl rfl
    | cons a ns =>
      refine .inr ⟨a, fun o ho => ?_⟩
      obtain ⟨k, hk, rfl⟩ := List.mem_map.mp ho
      have h1 := (mem' a).mp List.mem_cons_self
      have h2 := (mem' k).mp hk
      cases l with
      | nil => cases h1
      | cons b l =>
        cases l with
        | nil => rw [List.mem_singleton.mp h1, List.mem_singleton.mp h2]
        | cons _ _ => rw [List.length_cons, List.length_cons] at h; omega
theorem put_get {H : Hp} {kvs : List (Key × V)} {F : Lad.Found} (h : Paired (FkAt H) kvs F) {p : Int} (hp : F.lookup p = none) : valV kvs (.inl p) = none := by
  have := fk_get h p
  cases hv : valV kvs (.inl p) with
  | none => rfl
  | some v =>
    rw [hv] at this
    obtain ⟨a, e, _⟩ := this
    rw [hp] at e
    cases e
theorem entry_keys {root : Int} {ns : List (Option Int)} {signs : Lad.Signs} : (Lad.entries root ns signs).map (·.1) = signs.map (·.1) := by
  unfold Lad.entries
  rw [List.map_map]
  rfl
def SbD (D : Addr) (H H' : Hp) : Prop := ∀ q u, H q = some u → q ≠ D → H' q = some u
theorem nbr_flip {ps : List Lad.Pr} {p : Int} {e : Lad.Edge} (h : e ∈ Lad.nbrs ps p) : Lad.nbrs ps e.1 ≠ [] := by
  obtain ⟨e', h', _⟩ := Lad.edge_back h
  exact List.ne_nil_of_mem h'
theorem nbr_bd {ps : List Lad.Pr} (hO : Lad.Ones ps) {B : Nat} (hB : ∀ r ∈ ps, r.a.natAbs ≤ B) {p : Int} {e : Lad.Edge} (h : e ∈ Lad.nbrs ps p) : e.2.2.natAbs ≤ B := by
  obtain ⟨r, hr, h⟩ := Lad.mem_nbrs.mp h
  have hb := hB r hr
  rcases h with ⟨_, rfl⟩ | ⟨_, rfl⟩
  · exact hb
  · show (-r.s * r.a).natAbs ≤ B
    rw [Lad.one_abs (by rcases hO r hr with z | z <;> omega)]
    exact hb
section
variable {P : Program} {w : World} {K : Fg} {mg : Str → Option Value} {base : Heap}
abbrev n__law_settled : List Str := ["_law_pairs_here", "_law_known", "_law_root", "_law_webs_here", "_law_found_here", "_law_notes", "_law_signs", "_law_place", "_law_word", "_law_sign", "_law_amount_here", "_law_note"]
abbrev pr__law_settled : List Str := ["_law_pairs_here", "_law_known"]
theorem sc__law_settled : FnScope n__law_settled pr__law_settled (defScope s__law_settled) := ⟨rfl, rfl, rfl, by decide +kernel, rfl, by decide +kernel, by decide +kernel⟩

def spSettled : Sp := fun vs H Q _ => ∃ (A Kl : Addr) (us ws : List V) (ps : List Lad.Pr) (ks : Lad.Known) (B n : Nat), vs = [V.ref A, V.ref Kl] ∧ H A = some (.lst us) ∧ Paired (PrAt H) us ps ∧ H Kl = some (.lst ws) ∧ Paired (KnAt H) ws ks ∧ ps.length ≤ 200 ∧ Lad.Ones ps ∧ ks.length ≤ 10 ∧ Lad.Few ps ks n ∧ n ≤ 50 ∧
  (∀ r ∈ ps, r.a.natAbs ≤ B) ∧ (∀ k ∈ ks, k.2.natAbs ≤ B) ∧
  (∀ Hf, Same H Hf → (∀ x, Lad.PSat ps x → ¬ Lad.KSat ks x) → Q .non Hf) ∧
  ∀ D F Hf, Same H Hf → FndAt Hf D F → Lad.SOk ps ks (4 * n * B + B) F → (∀ p, Lad.Met ps ks p → (F.lookup p).isSome = true) → Q (V.ref D) Hf
theorem ok__law_settled (c : Env K mg) : Pm P w K mg base 2 (d__law_settled.at_ K) spSettled := by
  obtain ⟨fd, F⟩ := fd__law_settled c
  refine .mk0 (F.ok sc__law_settled (ps := pr__law_settled) (by intro vs H Q E h; obtain ⟨_, _, _, _, _, _, _, _, rfl, _⟩ := h; rfl) fun cdv A0 outer s0 H vs Q E hr h => ?_) (FunD.bindsN F fun _ _ _ _ _ _ us hl => match us, hl with | [_, _], _ => rfl) F.kp
  obtain ⟨A, Kl, us, ws, ps, ks, B, n, rfl, hA, hus, hKl, hws, hpn, hO, hkn, hFew, hn, hBp, hBk, hQn, hQs⟩ := h
  refine ⟨_, (PSs.nox (pss_cons (ps_par (i := 3) (j := 4) (by rfl) sc__law_settled.nd rfl rfl (by decide) rfl rfl (pa_cons (pe_callF (ok__law_webs c) (hr.mono (by decide)) rfl (g__law_webs c) (pa_cons (pv 0) pa_nil)) (pa_cons pe_dnewK pa_nil)) (by rfl))
    (pss_cons (ps_for PassesOwn.never rfl (pi_list (pe_callB (cr_sortedSetw (w := w) rfl rfl) (by rfl) (f_sorted c) (by decide +kernel) (pa_cons (pe_callTy (cr_setIw (w := w) rfl rfl) (by rfl) (f_set c) (by decide +kernel) (pa_cons (pe_op op_cat (pe_callTy (call_listD rfl) (by rfl) (f_list c) (by decide +kernel) (pa_cons (pv 3) pa_nil)) (pe_lc (own := [("_law_place", 7), ("_law_note", 11)]) (g := (gTup _ 2 (gCons (gName 7) (gCons (gName 11) gNil)))) (tt := tYes) (by rfl) sc__law_settled.nd (pi_list (pv 1)) (blkOk_by (own := [("_law_place", 7), ("_law_note", 11)]) (N := n__law_settled) (sc := defScope s__law_settled) (by decide +kernel)) (fun _ _ _ _ _ => (pg_tup rfl (pgs_cons (pg_name (i := 7) sc__law_settled.nd rfl (Or.inl rfl)) (pgs_cons (pg_name (i := 11) sc__law_settled.nd rfl (Or.inl rfl)) pgs_nil)))) (fun _ _ _ _ _ => pts_nil) (fun _ _ _ _ _ => (pv 7)))) pa_nil)) pa_nil))) (pg_name (i := 2) sc__law_settled.nd rfl (Or.inl rfl))
    (pss_one (ps_if (pt_cmp (pc_dnotin (hu_of hr) (pv 2) (pv 4))) (pss_cons (ps_asg (pe_callF (ok__law_web_from c) (hr.mono (by decide)) rfl (g__law_web_from c) (pa_cons (pv 3) (pa_cons (pv 2) pa_nil))) (pg_tup rfl (pgs_cons (pg_name (i := 6) sc__law_settled.nd rfl (Or.inr rfl)) (pgs_cons (pg_name (i := 5) sc__law_settled.nd rfl (Or.inl rfl)) pgs_nil))))
    (pss_cons (ps_set (i := 5) sc__law_settled.nd rfl (Or.inl rfl) (pe_op op_cat (pv 5) (pe_lc (own := [("_law_place", 7), ("_law_note", 11)]) (g := (gTup _ 2 (gCons (gName 7) (gCons (gName 11) gNil)))) (tt := _) (by rfl) sc__law_settled.nd (pi_list (pv 1)) (blkOk_by (own := [("_law_place", 7), ("_law_note", 11)]) (N := n__law_settled) (sc := defScope s__law_settled) (by decide +kernel)) (fun _ _ _ _ _ => (pg_tup rfl (pgs_cons (pg_name (i := 7) sc__law_settled.nd rfl (Or.inl rfl)) (pgs_cons (pg_name (i := 11) sc__law_settled.nd rfl (Or.inl rfl)) pgs_nil)))) (fun _ _ _ _ _ => pts_one (pt_cmp (pc_din (hu_of hr) (pv 7) (pv 6)))) (fun _ _ _ _ _ => (pe_op op_mul (pe_ix (ix_tupK rfl) (pe_dget (hu_of hr) (pv 6) (pv 7) (fun _ _ => rfl)) pe_int (fun _ _ => rfl)) (pe_op op_sub (pv 11) (pe_ix (ix_tupK rfl) (pe_dget (hu_of hr) (pv 6) (pv 7) (fun _ _ => rfl)) pe_int (fun _ _ => rfl))))))))
    (pss_cons (ps_if (PW.pt (pw_or (pt_cmpR op_in_seq pe_non (pv 5) (by rfl)) (pw_or1 (pt_cmpR op_gt (pe_callB (cr_lenSetw (w := w) rfl) (by rfl) (f_len c) (by decide +kernel) (pa_cons (pe_callTy (cr_setIw (w := w) rfl rfl) (by rfl) (f_set c) (by decide +kernel) (pa_cons (pv 5) pa_nil)) pa_nil)) pe_int (nomark _))))) (pss_one (ps_ret pe_non)) pss_nil)
    (pss_one (ps_for PassesOwn.never rfl (pi_list (LiI.pe_listItems rfl (pv 6) (by rfl) (f_list c) (by decide +kernel))) (pg_tup rfl (pgs_cons (pg_name (i := 7) sc__law_settled.nd rfl (Or.inl rfl)) (pgs_cons (pg_tup rfl (pgs_cons (pg_name (i := 9) sc__law_settled.nd rfl (Or.inl rfl)) (pgs_cons (pg_name (i := 10) sc__law_settled.nd rfl (Or.inl rfl)) pgs_nil))) pgs_nil)))
    (pss_cons (ps_set (i := 8) sc__law_settled.nd rfl (Or.inl rfl) (pe_ifExp (pt_cmpR op_eq (pv 9) pe_int (nomark _)) pe_str pe_str))
    (pss_one (ps_dput (hu_of hr) (pv 4) (pv 7) (pe_ifExp (pt_cmpR (op_eqNil hr.units0) (pv 5) (pe_lst pa_nil) (nomark _)) (pe_tup (pa_cons (pv 8) (pa_cons (pv 2) (pa_cons (pv 10) pa_nil)))) (pe_tup (pa_cons pe_str (pa_cons (pe_op op_add (pv 10) (pe_op op_mul (pv 9) (pe_ix ix_list (pv 5) pe_int (fun _ _ => rfl)))) pa_nil)))) rfl)))))))) pss_nil)))
    (pss_one (ps_ret (pv 4)))))), ?_⟩
  refine ⟨_, rfl, A, us, ps, rfl, hA, hus, by omega, hO, fun W H1 s1 fW hW => ?_⟩
  intro D nD
  refine ⟨_, _, rfl, ?_⟩
  obtain ⟨wkv, hWd, hWn⟩ := id hW
  have sD := same_upd nD (o := .dK [])
  have hD := @upd_same H1 D (.dK [])
  have s2 := s1.trans sD
  have fD := s1.free nD
  have hW2 : WebsAt (upd H1 D (.dK [])) W ps := ⟨wkv, sD _ _ hWd, hWn.keep (fun q us h => sD _ _ h) (Tu.of sD)⟩
  revert hD s2 hW2
  generalize upd H1 D (.dK []) = H2
  intro hD s2 hW2
  obtain ⟨wkv2, hWd2, hWn2⟩ := id hW2
  refine ⟨_, rfl, W, wkv2, rfl, .inl hWd2, fun Lk nLk => ?_⟩
  obtain ⟨kp, ekp, ndk, memk⟩ := webs_keys hWn2
  rw [ekp]
  have hkp : kp.length ≤ n := hFew kp ndk fun p hp => .inl ((memk p).mp hp)
  have sL := same_upd nLk (o := .lst (kp.map V.int))
  have hLk := @upd_same H2 Lk (.lst (kp.map V.int))
  have s3 := s2.trans sL
  have hD3 := sL _ _ hD
  have hW3 : WebsAt (upd H2 Lk (.lst (kp.map V.int))) W ps := ⟨wkv2, sL _ _ hWd2, hWn2.keep (fun q us h => sL _ _ h) (Tu.of sL)⟩
  revert sL hLk s3 hD3 hW3
  generalize upd H2 Lk (.lst (kp.map V.int)) = H3
  intro sL hLk s3 hD3 hW3
  have hlw := pair_len hws
  refine ⟨_, rfl, Kl, rfl, ⟨_, .of (s3 _ _ hKl)⟩, fun L2' nL2 => ?_⟩
  refine lc_it (walk_list (xs := ws)) (fun i H' => H' L2' = some (.lst (((ks.map (·.1)).map V.int).take i)) ∧ Same H3 H') ⟨upd_same, same_upd nL2⟩ (fun i H' _ q => SqL.of (K := K) (q.2 _ _ (s3 _ _ hKl))) (fun i x H4 H5 hi q hy => ?_) (fun H4 q => ?_)
  · obtain ⟨hL2, s4⟩ := q
    obtain ⟨rfl, hy⟩ := hy
    obtain ⟨k, hk1, hkn⟩ := pair_get hws hy
    obtain ⟨pk, rfl, hpk⟩ := hkn.tu (Tu.of (s3.trans s4))
    refine ⟨pk, _, rfl, .of hpk, rfl, _, _, rfl, _, _, rfl, rfl, rfl, _, rfl, _, hL2, lt_line (by rw [List.length_take, List.length_map, List.length_map]; omega), ?_, same_set s4 nL2⟩
    rw [upd_same, List.take_add_one, List.getElem?_map, List.getElem?_map, hk1]
    rfl
  · obtain ⟨hL2, s4⟩ := q
    rw [List.take_of_length_le (by rw [List.length_map, List.length_map]; omega)] at hL2
    refine ⟨Lk, L2', _, _, rfl, rfl, s4 _ _ hLk, hL2, by rw [List.length_map, List.length_map, List.length_map]; exact line_big (by omega), fun L3 nL3 => ?_⟩
    rw [← List.map_append]
    have s5 := s4.trans (same_upd nL3 (o := .lst ((kp ++ ks.map (·.1)).map V.int)))
    have sx5 := s4.trans (same_upd nL3 (o := .lst ((kp ++ ks.map (·.1)).map V.int)))
    have hL3 := @upd_same H4 L3 (.lst ((kp ++ ks.map (·.1)).map V.int))
    revert sx5 hL3
    generalize upd H4 L3 (.lst ((kp ++ ks.map (·.1)).map V.int)) = H5
    intro sx5 hL3
    refine ⟨L3, kp ++ ks.map (·.1), rfl, .of hL3, by rw [List.length_append, List.length_map]; omega, fun S0 m nS hm => ?_⟩
    have sx6 := sx5.trans (same_upd nS (o := SetO w S0 (fun k => (kp ++ ks.map (·.1)).any (· == k)) m))
    have hS0 := @upd_same H5 S0 (SetO w S0 (fun k => (kp ++ ks.map (·.1)).any (· == k)) m)
    revert sx6 hS0
    generalize upd H5 S0 (SetO w S0 (fun k => (kp ++ ks.map (·.1)).any (· == k)) m) = H6
    intro sx6 hS0
    have hm64 : m < 64 := by rw [List.length_append, List.length_map] at hm; omega
    refine ⟨S0, _, m, rfl, hS0, hm64, fun rs R hasc hmem hlen nR => ?_⟩
    have sx7 := sx6.trans (same_upd nR (o := .lst (rs.map V.int)))
    have hR7 := @upd_same H6 R (.lst (rs.map V.int))
    revert sx7 hR7
    generalize upd H6 R (.lst (rs.map V.int)) = H7
    intro sx7 hR7
    have hmet : ∀ p, p ∈ rs ↔ Lad.Met ps ks p := fun p => by
      rw [hmem p, List.any_eq_true]
      constructor
      · rintro ⟨q, hq, e⟩
        have e : q = p := beq_iff_eq.mp e
        subst e
        rcases List.mem_append.mp hq with h | h
        · exact .inl ((memk q).mp h)
        · obtain ⟨k, hk, e⟩ := List.mem_map.mp h
          exact .inr ⟨k, hk, e⟩
      · rintro (h | ⟨k, hk, e⟩)
        · exact ⟨p, List.mem_append_left _ ((memk p).mpr h), beq_self_eq_true _⟩
        · exact ⟨p, List.mem_append_right _ (List.mem_map.mpr ⟨k, hk, e⟩), beq_self_eq_true _⟩
    have hD7 := sx7 _ _ hD3
    have hW7 : WebsAt H7 W ps := by
      obtain ⟨wk, w1, w2⟩ := hW3
      exact ⟨wk, sx7 _ _ w1, w2.keep (fun q us h => sx7 _ _ h) (Tu.of sx7)⟩
    have s07 := s3.trans sx7
    have hKl7 := s07 _ _ hKl
    have nWD : W ≠ D := ne_of_none hWd nD
    have nRD : R ≠ D := ne_of hR7 hD7 (by intro z; cases z)
    have nKD : Kl ≠ D := ne_of hKl7 hD7 (by intro z; cases z)
    refine ⟨R, rfl, ⟨_, .of hR7⟩, ?_⟩
    refine for_it (walk_list (xs := rs.map V.int)) (fun i σ H' => ∃ (F : Lad.Found) (z2 z5 z6 z7 z8 z9 z10 z11 : Option V), σ = [some (.ref A), some (.ref Kl), z2, some (.ref W), some (.ref D), z5, z6, z7, z8, z9, z10, z11] ∧ FpAt H' D F ∧ SbD D H7 H' ∧ Lad.SOk ps ks (4 * n * B + B) F ∧ (F.map (·.1)).Nodup ∧ ∀ j p, j < i → rs[j]? = some p → (F.lookup p).isSome = true) ⟨[], _, _, _, _, _, _, _, _, rfl, ⟨[], hD7, .nil⟩, fun _ _ e _ => e, Lad.sok_nil, List.nodup_nil, fun j p h _ => absurd h (Nat.not_lt_zero _)⟩ (fun i σ H' _ e => by
      obtain ⟨_, _, _, _, _, _, _, _, _, _, _, sb, _⟩ := e
      exact SqL.of (K := K) (sb _ _ hR7 nRD)) (fun i x σ H9 H8 hi q hy => ?_) (fun σ H8 q => ?_)
    · obtain ⟨F, z2, z5, z6, z7, z8, z9, z10, z11, rfl, hF, sb, S, nd, hall⟩ := q
      obtain ⟨rfl, hy⟩ := hy
      rw [List.getElem?_map] at hy
      obtain ⟨root, hroot, rfl⟩ := Option.map_eq_some_iff.mp hy
      obtain ⟨kvF, hkF, pF⟩ := id hF
      have hg := fk_get pF root
      refine ⟨_, rfl, _, rfl, D, _, rfl, DGet.k (k := .inl root) hkF, _, rfl, ?_⟩
      cases hv : valV kvF (.inl root) with
      | some v =>
        rw [hv] at hg
        obtain ⟨a, ha, _⟩ := hg
        refine ifN rfl ?_
        refine ⟨F, _, _, _, _, _, _, _, _, rfl, hF, sb, S, nd, fun j p hj hp => ?_⟩
        by_cases e : j = i
        · rw [e, hroot] at hp
          cases hp
          rw [ha]; rfl
        · exact hall j p (by omega) hp
      | none =>
        rw [hv] at hg
        refine ifY rfl ?_
        have hFl : F.length ≤ n := by
          have := hFew (F.map (·.1)) nd fun p hp => S.met p (found_some.mpr hp)
          rwa [List.length_map] at this
        have tu78 : Tu H7 H8 := fun q us e => sb _ _ e (ne_of e hD7 (by intro z; cases z))
        have hW8 : WebsAt H8 W ps := by
          obtain ⟨wk, w1, w2⟩ := hW7
          exact ⟨wk, sb _ _ w1 nWD, w2.keep (fun q us e => sb _ _ e (ne_of e hD7 (by intro z; cases z))) tu78⟩
        have hrm : Lad.Met ps ks root := (hmet root).mp (List.mem_of_getElem? hroot)
        have hQp : ∀ p, ∀ e ∈ Lad.nbrs ps p, (F.lookup p = none ∧ Lad.Met ps ks p) → (F.lookup e.1 = none ∧ Lad.Met ps ks e.1) := fun p e he hp => by
          refine ⟨?_, .inl (nbr_flip he)⟩
          cases h : F.lookup e.1 with
          | none => rfl
          | some a =>
            exfalso
            obtain ⟨e', he', e2⟩ := Lad.edge_back he
            have := S.cl e.1 (by rw [h]; rfl) e' he'
            rw [e2, hp.1] at this
            cases this
        have hNw : ∀ w, Lad.WInv ps B (fun k => F.lookup k = none ∧ Lad.Met ps ks k) root w → w.signs.length ≤ n := fun w wi => by
          have := hFew (w.signs.map (·.1)) wi.nd fun p hp => by
            obtain ⟨k, hk, e⟩ := List.mem_map.mp hp
            rw [← e]
            exact (wi.from_ k hk).2
          rwa [List.length_map] at this
        refine ⟨_, rfl, _, rfl, W, root, ps, B, n, (fun k => F.lookup k = none ∧ Lad.Met ps ks k), rfl, hW8, hO, hpn, by omega, fun p e he => nbr_bd hO hBp he, hQp, ⟨hg, hrm⟩, hNw, fun Ds Dn signs notes tp H9 s9 fDn hnl hWE htp hS hN => ?_⟩
        refine ⟨tp, _, rfl, .of htp, rfl, _, _, rfl, _, _, rfl, rfl, ?_⟩
        have hN1 : signs.length ≤ n := hNw _ hWE.inv
        have hKl9 := s9 _ _ (sb _ _ hKl7 nKD)
        have tu9 : Tu H H9 := (Tu.of s07).trans (tu78.trans (Tu.of s9))
        obtain ⟨kvS, hkS, pS⟩ := hS
        refine ⟨_, rfl, _, rfl, Kl, rfl, ⟨_, .of hKl9⟩, fun Lm nLm => ?_⟩
        refine lc_it (walk_list (xs := ws)) (fun i H' => H' Lm = some (.lst ((Lad.moreNotes (ks.take i) signs).map V.int)) ∧ Same H9 H') ⟨upd_same, same_upd nLm⟩ (fun i H' _ q => SqL.of (K := K) (q.2 _ _ hKl9)) (fun i x H10 H11 hi q hy => ?_) (fun H10 q => ?_)
        · obtain ⟨hLm, s10⟩ := q
          obtain ⟨rfl, hy⟩ := hy
          obtain ⟨k, hk1, hkn⟩ := pair_get hws hy
          obtain ⟨pk, rfl, hpk⟩ := hkn.tu (tu9.trans (Tu.of s10))
          have hgS := signs_get pS k.1
          have hkS10 := s10 _ _ hkS
          have etk : ks.take (i + 1) = ks.take i ++ [k] := by rw [List.take_add_one, hk1]; rfl
          have hml := more_len (ks.take i) signs
          rw [List.length_take] at hml
          refine ⟨pk, _, rfl, .of hpk, rfl, _, _, rfl, _, _, rfl, rfl, rfl, _, rfl, _, rfl, Ds, _, rfl, DGet.k (k := .inl k.1) hkS10, _, rfl, ?_⟩
          cases hv2 : valV kvS (.inl k.1) with
          | none =>
            rw [hv2] at hgS
            refine ifN rfl ⟨?_, s10⟩
            rw [hLm, etk, more_snoc, show signs.lookup k.1 = none from hgS, List.append_nil]
          | some v2 =>
            rw [hv2] at hgS
            obtain ⟨so, hso, p2, rfl, hp2⟩ := hgS
            have hp2' := s10 _ _ hp2
            have dg := DGet.k (k := .inl k.1) hkS10
            rw [hv2] at dg
            have hone := hWE.inv.one _ (Lad.lookup_mem hso)
            simp only at hone
            refine ifY rfl ⟨_, rfl, _, rfl, Ds, _, rfl, dg, p2, _, _, _, rfl, rfl, .of hp2', rfl, _, rfl, _, rfl, _, rfl, Ds, _, rfl, dg, p2, _, _, _, rfl, rfl, .of hp2', rfl, _, _, rfl, rfl, _, _, rfl, rfl, .inl ⟨by omega, by omega⟩, _, hLm, lt_line (by rw [List.length_map]; omega), ?_, same_set s10 nLm⟩
            rw [upd_same, etk, more_snoc, hso, List.map_append]
            rfl
        · obtain ⟨hLm, s10⟩ := q
          rw [List.take_of_length_le (by omega)] at hLm
          have hml := more_len ks signs
          have hDn10 := s10 _ _ hN
          refine ⟨Dn, Lm, _, _, rfl, rfl, hDn10, hLm, by rw [List.length_map, List.length_map]; exact line_big (by omega), fun Cn nCn => ?_⟩
          rw [all_map]
          have hal : (Lad.allNotes ks signs notes).length ≤ 500 := by
            unfold Lad.allNotes
            rw [List.length_append, List.length_map]
            omega
          have s11 := s10.trans (same_upd nCn (o := .lst ((Lad.allNotes ks signs notes).map optV)))
          have hCn := @upd_same H10 Cn (.lst ((Lad.allNotes ks signs notes).map optV))
          revert s11 hCn
          generalize upd H10 Cn (.lst ((Lad.allNotes ks signs notes).map optV)) = H11
          intro s11 hCn
          have hflat : ((Lad.allNotes ks signs notes).map optV).all flatV = true := List.all_eq_true.mpr fun v hv => by
            obtain ⟨o, _, rfl⟩ := List.mem_map.mp hv
            cases o <;> rfl
          refine ⟨_, rfl, Cn, _, rfl, .inl (.of hCn), rfl, hflat, _, rfl, ?_⟩
          have s0x : Same H H11 := fun q u e => s11 _ _ (s9 _ _ (sb _ _ (s07 _ _ e) (ne_of_none e fD)))
          have no : ∀ Hf, Same H11 Hf → ¬ Lad.Alike (Lad.allNotes ks signs notes) → Q .non Hf := fun Hf sf na => hQn _ (s0x.trans sf) (Lad.settle_none hWE na)
          by_cases hnone : none ∈ Lad.allNotes ks signs notes
          · refine ifY (in_none.mpr hnone) (ifY rfl (no _ (fun _ _ e => e) fun q => ?_))
            rcases q with q | ⟨n', q⟩
            · rw [q] at hnone; cases hnone
            · exact absurd (q _ hnone) (by intro z; cases z)
          · refine ifN (by rw [Bool.eq_false_iff]; exact fun q => hnone (in_none.mp q)) ?_
            obtain ⟨ns, ens⟩ := all_some hnone
            have hCn2 : H11 Cn = some (.lst (ns.map V.int)) := by
              rw [hCn, ens, List.map_map]
              rfl
            refine ⟨_, rfl, Cn, ns, rfl, .of hCn2, by rw [ens, List.length_map] at hal; omega, fun S1 m1 nS1 hm1 => ⟨S1, _, m1, rfl, upd_same, fun ksS ndS lenS memS => ⟨_, _, rfl, rfl, _, rfl, ?_⟩⟩⟩
            have s12 := same_upd nS1 (o := SetO w S1 (fun k => ns.any (· == k)) m1)
            revert s12
            generalize upd H11 S1 (SetO w S1 (fun k => ns.any (· == k)) m1) = H12
            intro s12
            have hA := alike_len ndS memS
            rw [← ens, lenS] at hA
            by_cases h1 : m1 ≤ 1
            · refine ifN (decide_eq_false (by omega)) ?_
              have hAl := hA.mpr h1
              have hkS12 := s12 _ _ (s11 _ _ hkS)
              refine ⟨_, rfl, Ds, kvS, rfl, hkS12, fun H13 lp ts s13 nlp nts lpn hlp pts => ⟨lp, rfl, ⟨_, .of hlp⟩, ?_⟩⟩
              have sD13 : SbD D H8 H13 := fun q u e _ => s13 _ _ (s12 _ _ (s11 _ _ (s9 _ _ e)))
              have hF13 : FpAt H13 D F := hF.grow (s9.trans (s11.trans (s12.trans s13)))
              have hCn13 := s13 _ _ (s12 _ _ hCn)
              have nCD : Cn ≠ D := ne_of (s12.trans s13 _ _ hCn) (hF13.choose_spec.1) (by intro z; cases z)
              have pS13 := pair_mono pS fun _ _ y => y.tu (Tu.of (s11.trans (s12.trans s13)))
              have hlt := pair_len pts
              have hlS := pair_len pS
              refine for_it (walk_list (xs := ts.map V.ref)) (fun j σ H' => ∃ (z7 z8 z9 z10 z11 : Option V), σ = [some (.ref A), some (.ref Kl), some (.int root), some (.ref W), some (.ref D), some (.ref Cn), some (.ref Ds), z7, z8, z9, z10, z11] ∧ FpAt H' D (F ++ (Lad.entries root (Lad.allNotes ks signs notes) signs).take j) ∧ SbD D H13 H') ⟨_, _, _, _, _, rfl, by rw [List.take_zero, List.append_nil]; exact hF13, fun _ _ e _ => e⟩ (fun j σ H' _ e => by
                obtain ⟨_, _, _, _, _, _, _, sb2⟩ := e
                exact SqL.of (K := K) (sb2 _ _ hlp (ne_of hlp (hF13.choose_spec.1) (by intro z; cases z)))) (fun j x σ H15 H14 hj q hy => ?_) (fun σ H14 q => ?_)
              · obtain ⟨z7, z8, z9, z10, z11, rfl, hF14, sb2⟩ := q
                obtain ⟨rfl, hy⟩ := hy
                rw [List.getElem?_map] at hy
                obtain ⟨t0, ht0, rfl⟩ := Option.map_eq_some_iff.mp hy
                obtain ⟨kv, hkv, htv⟩ := pair_get pts ht0
                obtain ⟨k, hk1, ek, p2, ep2, hp2⟩ := pair_get pS13 hkv
                have tu2 : Tu H13 H14 := fun q us e => sb2 _ _ e (ne_of e (hF13.choose_spec.1) (by intro z; cases z))
                rw [ek, ep2] at htv
                have ht14 := tu2 _ _ htv
                have hp14 := tu2 _ _ hp2
                refine ⟨t0, _, rfl, .of ht14, rfl, _, _, rfl, _, _, rfl, ⟨p2, _, rfl, .of hp14, rfl, _, _, rfl, _, _, rfl, rfl, rfl, ?_⟩⟩
                obtain ⟨kv14, hk14, p14⟩ := hF14
                have hCn14 := sb2 _ _ (s13 _ _ (s12 _ _ hCn2)) nCD
                have hone := hWE.inv.one _ (List.mem_of_getElem? hk1)
                have ete : (Lad.entries root (Lad.allNotes ks signs notes) signs).take (j + 1) = (Lad.entries root (Lad.allNotes ks signs notes) signs).take j ++ [(k.1, Lad.entry root (Lad.allNotes ks signs notes) k.2)] := by
                  rw [List.take_add_one]
                  unfold Lad.entries
                  rw [List.getElem?_map, hk1]
                  rfl
                have hnew : (F ++ (Lad.entries root (Lad.allNotes ks signs notes) signs).take j).lookup k.1 = none := by
                  refine found_none.mpr fun hm => ?_
                  rw [List.map_append] at hm
                  rcases List.mem_append.mp hm with h | h
                  · exact found_none.mp (hWE.inv.from_ _ (List.mem_of_getElem? hk1)).1 h
                  · rw [List.map_take, entry_keys] at h
                    obtain ⟨j2, hj2⟩ := List.mem_iff_getElem?.mp h
                    obtain ⟨l2, e2⟩ := List.getElem?_eq_some_iff.mp hj2
                    rw [List.length_take] at l2
                    rw [List.getElem_take] at e2
                    obtain ⟨l1, e1⟩ := List.getElem?_eq_some_iff.mp hk1
                    have hn : (signs.map (·.1)).Nodup := hWE.inv.nd
                    have hlm : (signs.map (·.1)).length = signs.length := List.length_map _
                    have := List.pairwise_iff_getElem.mp hn j2 j (by omega) (by omega) (by omega)
                    rw [e2, List.getElem_map, e1] at this
                    exact this rfl
                have hput := put_get p14 hnew
                have hl14 : kv14.length < sizeLine := by
                  have hle : (Lad.entries root (Lad.allNotes ks signs notes) signs).length = signs.length := List.length_map _
                  rw [pair_len p14, List.length_append, List.length_take, hle]
                  exact lt_line (by omega)
                have fin : ∀ (Hx : Hp) (q : Addr) (z11 : Option V) {z8 : Option V}, Same H14 Hx → AnsAt Hx (.ref q) (Lad.entry root (Lad.allNotes ks signs notes) k.2) → ∃ (y7 y8 y9 y10 y11 : Option V), [some (V.ref A), some (.ref Kl), some (.int root), some (.ref W), some (.ref D), some (.ref Cn), some (.ref Ds), some (.int k.1), z8, some (.int k.2.1), some (.int k.2.2), z11] = [some (V.ref A), some (.ref Kl), some (.int root), some (.ref W), some (.ref D), some (.ref Cn), some (.ref Ds), y7, y8, y9, y10, y11] ∧ FpAt (upd Hx D (.dK (putK kv14 (.inl k.1) (.ref q)))) D (F ++ (Lad.entries root (Lad.allNotes ks signs notes) signs).take (j + 1)) ∧ SbD D H13 (upd Hx D (.dK (putK kv14 (.inl k.1) (.ref q)))) := fun Hx q z11 z8 sx ha => by
                  have hDx := sx _ _ hk14
                  have tux : Tu Hx (upd Hx D (.dK (putK kv14 (.inl k.1) (.ref q)))) := fun x us e => by
                    rw [upd_ne (ne_of e hDx (by intro z; cases z))]
                    exact e
                  refine ⟨_, _, _, _, _, rfl, ⟨_, upd_same, ?_⟩, fun x u e nx => by rw [upd_ne nx]; exact sx _ _ (sb2 _ _ e nx)⟩
                  rw [put_new hput, ete, ← List.append_assoc]
                  rw [put_new hput] at tux
                  exact pair_app (pair_mono p14 fun _ _ y => y.tu ((Tu.of sx).trans tux)) (.cons ⟨rfl, ha.tu tux⟩ .nil)
                refine ⟨_, rfl, rfl, _, rfl, ?_⟩
                by_cases h1s : k.2.1 = 1
                · refine ifY (decide_eq_true (congrArg V.int h1s)) ?_
                  have hb : (k.2.1 != 1) = false := by rw [h1s]; rfl
                  refine ⟨_, rfl, Nat.zero_le _, fun e0 ne0 => ?_⟩
                  have se0 := same_upd ne0 (o := .lst [])
                  refine ⟨Cn, e0, _, rfl, rfl, .of (se0 _ _ hCn14), .of upd_same, _, rfl, ?_⟩
                  rcases hns : ns with _ | ⟨n0, ns'⟩
                  · refine ifY rfl ⟨_, rfl, _, rfl, _, rfl, by show 3 ≤ sizeLine; decide, fun q nq => ⟨_, rfl, _, rfl, D, _, rfl, DPut.k (k := .inl k.1) (same_upd nq _ _ (se0 _ _ hk14)) hl14, ?_⟩⟩
                    have sq := same_upd nq (o := .tup [V.str "up", V.int root, V.int k.2.2])
                    refine fin _ q _ (se0.trans sq) ?_
                    rw [ens, hns]
                    show AnsAt _ _ (.hang (k.2.1 != 1) root k.2.2)
                    rw [hb]
                    exact ⟨q, rfl, upd_same⟩
                  · rw [hns] at hCn14
                    refine ifN rfl ⟨_, rfl, _, rfl, _, rfl, Cn, _, _, _, rfl, rfl, (.of (se0 _ _ hCn14)), atI_nat (xs := (n0 :: ns').map V.int) (j := 0) rfl, _, _, rfl, rfl, .inl ⟨by omega, by omega⟩, _, _, rfl, rfl, by show 2 ≤ sizeLine; decide, fun q nq => ⟨_, rfl, _, rfl, D, _, rfl, DPut.k (k := .inl k.1) (same_upd nq _ _ (se0 _ _ hk14)) hl14, ?_⟩⟩
                    have sq := same_upd nq (o := .tup [V.str "told", V.int (k.2.2 + k.2.1 * n0)])
                    refine fin _ q _ (se0.trans sq) ?_
                    rw [ens, hns]
                    exact ⟨q, rfl, upd_same⟩
                · refine ifN (decide_eq_false (fun z => h1s (V.int.inj z))) ?_
                  have hb : (k.2.1 != 1) = true := by
                    rcases hone with z | z
                    · exact absurd z h1s
                    · rw [z]; rfl
                  refine ⟨_, rfl, Nat.zero_le _, fun e0 ne0 => ?_⟩
                  have se0 := same_upd ne0 (o := .lst [])
                  refine ⟨Cn, e0, _, rfl, rfl, .of (se0 _ _ hCn14), .of upd_same, _, rfl, ?_⟩
                  rcases hns : ns with _ | ⟨n0, ns'⟩
                  · refine ifY rfl ⟨_, rfl, _, rfl, _, rfl, by show 3 ≤ sizeLine; decide, fun q nq => ⟨_, rfl, _, rfl, D, _, rfl, DPut.k (k := .inl k.1) (same_upd nq _ _ (se0 _ _ hk14)) hl14, ?_⟩⟩
                    have sq := same_upd nq (o := .tup [V.str "down", V.int root, V.int k.2.2])
                    refine fin _ q _ (se0.trans sq) ?_
                    rw [ens, hns]
                    show AnsAt _ _ (.hang (k.2.1 != 1) root k.2.2)
                    rw [hb]
                    exact ⟨q, rfl, upd_same⟩
                  · rw [hns] at hCn14
                    refine ifN rfl ⟨_, rfl, _, rfl, _, rfl, Cn, _, _, _, rfl, rfl, (.of (se0 _ _ hCn14)), atI_nat (xs := (n0 :: ns').map V.int) (j := 0) rfl, _, _, rfl, rfl, .inl ⟨by omega, by omega⟩, _, _, rfl, rfl, by show 2 ≤ sizeLine; decide, fun q nq => ⟨_, rfl, _, rfl, D, _, rfl, DPut.k (k := .inl k.1) (same_upd nq _ _ (se0 _ _ hk14)) hl14, ?_⟩⟩
                    have sq := same_upd nq (o := .tup [V.str "told", V.int (k.2.2 + k.2.1 * n0)])
                    refine fin _ q _ (se0.trans sq) ?_
                    rw [ens, hns]
                    exact ⟨q, rfl, upd_same⟩
              · obtain ⟨z7, z8, z9, z10, z11, rfl, hF14, sb2⟩ := q
                have hle : (Lad.entries root (Lad.allNotes ks signs notes) signs).length = signs.length := List.length_map _
                rw [List.take_of_length_le (by rw [List.length_map]; omega)] at hF14
                have hlow : ∀ p, Lad.Met ps ks p → p < root → (F.lookup p).isSome = true := fun p hp hlt => by
                  obtain ⟨j, hj⟩ := List.mem_iff_getElem?.mp ((hmet p).mpr hp)
                  refine hall j p ?_ hj
                  obtain ⟨j1, j2⟩ := List.getElem?_eq_some_iff.mp hj
                  obtain ⟨i1, i2⟩ := List.getElem?_eq_some_iff.mp hroot
                  by_cases c : j < i
                  · exact c
                  · exfalso
                    by_cases c2 : j = i
                    · subst c2
                      have : p = root := j2.symm.trans i2
                      omega
                    · have := List.pairwise_iff_getElem.mp hasc i j i1 j1 (by omega)
                      omega
                have hst := Lad.settle_step hO hBk S hg hWE hlow hN1 hAl
                refine ⟨_, _, _, _, _, _, _, _, _, rfl, hF14, fun q u e nq => sb2 _ _ (sD13 _ _ (sb _ _ e nq) nq) nq, hst.1, ?_, fun j p hj hp => ?_⟩
                · rw [List.map_append, List.nodup_append]
                  refine ⟨nd, ?_, fun a ha b hb => ?_⟩
                  · rw [entry_keys]
                    exact hWE.inv.nd
                  · rw [entry_keys] at hb
                    obtain ⟨k, hk, rfl⟩ := List.mem_map.mp hb
                    have := (hWE.inv.from_ k hk).1
                    rintro rfl
                    exact found_none.mp this ha
                · rw [hst.2]
                  by_cases e : j = i
                  · rw [e, hroot] at hp
                    cases hp
                    rw [hg, show signs.lookup root = some (1, 0) from hWE.inv.rt]
                    rfl
                  · have := hall j p (by omega) hp
                    cases hl : F.lookup p with
                    | none => rw [hl] at this; cases this
                    | some a => rfl
            · exact ifY (decide_eq_true (by omega)) (no _ s12 fun q => h1 (hA.mp q))
    · obtain ⟨F, z2, z5, z6, z7, z8, z9, z10, z11, rfl, hF, sb, S, nd, hall⟩ := q
      have hFl : F.length ≤ n := by
        have := hFew (F.map (·.1)) nd fun p hp => S.met p (found_some.mpr hp)
        rwa [List.length_map] at this
      refine ⟨_, rfl, hQs D F _ (fun q u e => sb _ _ (s07 _ _ e) (ne_of_none e fD)) (hF.fnd (by omega)) S fun p hp => ?_⟩
      obtain ⟨j, hj⟩ := List.mem_iff_getElem?.mp ((hmet p).mpr hp)
      exact hall j p (by rw [List.length_map]; exact (List.getElem?_eq_some_iff.mp hj).1) hj
end
end TT

-- W35
set_option Elab.async false
set_option linter.all false
set_option maxRecDepth 100000
set_option maxHeartbeats 4000000
namespace TT
open PySem PySem.Spec PyProof.Rows L2 SX TL
theorem pairsOf_app (a b : List Lad.Row) : Lad.pairsOf (a ++ b) = Lad.pairsOf a ++ Lad.pairsOf b := by
  unfold Lad.pairsOf
  rw [List.flatMap_append]
theorem begin_ok {n : Int} {r : Lad.Row} (h : Lad.RowOk n r) (a : Int) {k : Int} (k1 : 1 ≤ k) (k2 : k ≤ r.l) : Lad.RowOk n (beginR (withA r a) k) := by
  have h1 := h.f0
  have h2 := h.s0
  have h3 := h.fe
  have h4 := h.se
  refine ⟨h1, ?_, k1, ?_, ?_, fun e => ?_⟩
  · show 0 ≤ if r.b then r.s + r.l - k else r.s
    split <;> omega
  · show r.f + k ≤ n
    omega
  · show (if r.b then r.s + r.l - k else r.s) + k ≤ n
    split <;> omega
  · have e : (r.b && decide (1 < k)) = true := e
    rw [Bool.and_eq_true] at e
    exact of_decide_eq_true e.2
section
variable {P : Program} {w : World} {K : Fg} {mg : Str → Option Value} {base : Heap}
abbrev n__law_found : List Str := ["_law_lore_here"]
abbrev pr__law_found : List Str := ["_law_lore_here"]
theorem sc__law_found : FnScope n__law_found pr__law_found (defScope s__law_found) := ⟨rfl, rfl, rfl, by decide +kernel, rfl, by decide +kernel, by decide +kernel⟩

def spFound : Sp := fun vs H Q _ => ∃ (D : Addr) (n : Int) (rs : List Lad.Row) (ks : Lad.Known) (B : Nat), vs = [V.ref D] ∧ LoreAt H D n rs ks ∧ Lad.LoreOk n rs ks B ∧ rs.length ≤ 4 ∧ ks.length ≤ 2 ∧
  ∀ E F Hf, Same H Hf → FndAt Hf E F → Lad.SOk (Lad.pairsOf rs) ks (4 * 14 * B + B) F → Q (V.ref E) Hf
theorem ok__law_found (c : Env K mg) : Pm P w K mg base 3 (d__law_found.at_ K) spFound := by
  obtain ⟨fd, F⟩ := fd__law_found c
  refine .mk0 (F.ok sc__law_found (ps := pr__law_found) (by intro vs H Q E h; obtain ⟨_, _, _, _, _, rfl, _⟩ := h; rfl) fun cdv A0 outer s0 H vs Q E hr h => ?_) (FunD.bindsN F fun _ _ _ _ _ _ us hl => match us, hl with | [_], _ => rfl) F.kp
  obtain ⟨D, n, rs, ks, B, rfl, hL, lo, h1, h2, hQ⟩ := h
  obtain ⟨T, N, us, ws, hD, hT, pT, hN, pN⟩ := id hL
  refine ⟨_, (PSs.nox (pss_one (ps_ret (pe_callF (ok__law_settled c) (hr.mono (by decide)) rfl (g__law_settled c) (pa_cons (pe_callF (ok__law_pairs c) (hr.mono (by decide)) rfl (g__law_pairs c) (pa_cons (pe_dget (hu_of hr) (pv 0) pe_str (fun _ _ => rfl)) pa_nil)) (pa_cons (pe_dget (hu_of hr) (pv 0) pe_str (fun _ _ => rfl)) pa_nil)))))), ?_⟩
  have l14 := fun r hr => Lad.RowOk.l14 (lo.rows r hr) lo.n14
  refine ⟨_, rfl, D, _, rfl, dg_ties hD, T, us, rs, rfl, hT, pT, by omega, fun r hr => ⟨(lo.rows r hr).l1, by have := l14 r hr; omega⟩, fun A acc H1 s1 nA hA pA => ?_⟩
  have hpl := Lad.pairs_len (m := 14) l14
  refine ⟨_, rfl, D, _, rfl, dg_notes (s1 _ _ hD), A, N, acc, ws, Lad.pairsOf rs, ks, B, 14, rfl, hA, pA, s1 _ _ hN, pair_mono pN fun _ _ y => y.tu (Tu.of s1), by omega, Lad.ones_rows rs, by omega, Lad.few_rows lo.rows lo.kn lo.n14, by decide, Lad.amount_rows lo.ba, lo.bk, fun Hf s no => ?_, fun E F Hf s hF S _ => hQ E F _ (s1.trans s) hF S⟩
  obtain ⟨x, x1, x2⟩ := lo.sat
  exact absurd x2 (no x x1)
abbrev n__law_fitted : List Str := ["_law_lore_here", "_law_row", "_law_wanted_here", "_law_lots", "_law_some"]
abbrev pr__law_fitted : List Str := ["_law_lore_here", "_law_row"]
theorem sc__law_fitted : FnScope n__law_fitted pr__law_fitted (defScope s__law_fitted) := ⟨rfl, rfl, rfl, by decide +kernel, rfl, by decide +kernel, by decide +kernel⟩

def spFitted : Sp := fun vs H Q _ => ∃ (D : Addr) (v : V) (n : Int) (rs : List Lad.Row) (ks : Lad.Known) (r : Lad.Row) (B : Nat), vs = [V.ref D, v] ∧ LoreAt H D n rs ks ∧ Lad.LoreOk n rs ks B ∧ rs.length ≤ 3 ∧ ks.length ≤ 2 ∧ RowAt H v r ∧ Lad.RowOk n r ∧ r.a.natAbs ≤ 114 * B ∧
  (∀ Hf, Same H Hf → Q .non Hf) ∧ ∀ p r' Hf, Same H Hf → RowAt Hf (V.ref p) r' → Lad.LoreOk n (rs ++ [r']) ks (114 * B) → Q (V.ref p) Hf
theorem ok__law_fitted (c : Env K mg) : Pm P w K mg base 4 (d__law_fitted.at_ K) spFitted := by
  obtain ⟨fd, F⟩ := fd__law_fitted c
  refine .mk0 (F.ok sc__law_fitted (ps := pr__law_fitted) (by intro vs H Q E h; obtain ⟨_, _, _, _, _, _, _, rfl, _⟩ := h; rfl) fun cdv A0 outer s0 H vs Q E hr h => ?_) (FunD.bindsN F fun _ _ _ _ _ _ us hl => match us, hl with | [_, _], _ => rfl) F.kp
  obtain ⟨D, v, n, rs, ks, r, B, rfl, hL, lo, h1, h2, hrow, ro, hra, hQn, hQs⟩ := h
  obtain ⟨T, N, us, ws, hD, hT, pT, hN, pN⟩ := id hL
  obtain ⟨p, rfl, hp⟩ := id hrow
  refine ⟨_, (PSs.nox (pss_cons (ps_set (i := 2) sc__law_fitted.nd rfl (Or.inl rfl) (pe_callF (ok__law_wanted c) (hr.mono (by decide)) rfl (g__law_wanted c) (pa_cons (pe_callF (ok__law_found c) (hr.mono (by decide)) rfl (g__law_found c) (pa_cons (pv 0) pa_nil)) (pa_cons (pv 1) pa_nil))))
    (pss_cons (ps_for PassesOwn.never rfl (pi_range3 rfl (f_range c) (pa_cons (pe_ix ix_tup (pv 1) pe_int (fun _ _ => rfl)) (pa_cons pe_int (pa_cons (pe_un un_neg pe_int) pa_nil)))) (pg_name (i := 3) sc__law_fitted.nd rfl (Or.inl rfl))
    (pss_cons (ps_set (i := 4) sc__law_fitted.nd rfl (Or.inl rfl) (pe_callF (ok__law_beginning c) (hr.mono (by decide)) rfl (g__law_beginning c) (pa_cons (pv 2) (pa_cons (pv 3) pa_nil))))
    (pss_one (ps_if (pt_cmpR op_notN (pe_callF (ok__law_settled c) (hr.mono (by decide)) rfl (g__law_settled c) (pa_cons (pe_callF (ok__law_pairs c) (hr.mono (by decide)) rfl (g__law_pairs c) (pa_cons (pe_op op_cat (pe_dget (hu_of hr) (pv 0) pe_str (fun _ _ => rfl)) (pe_lst (pa_cons (pv 4) pa_nil))) pa_nil)) (pa_cons (pe_dget (hu_of hr) (pv 0) pe_str (fun _ _ => rfl)) pa_nil))) pe_non (nomark _)) (pss_one (ps_ret (pv 4))) pss_nil))))
    (pss_one (ps_ret pe_non))))), ?_⟩
  have l14 := fun r hr => Lad.RowOk.l14 (lo.rows r hr) lo.n14
  have r14 := Lad.RowOk.l14 ro lo.n14
  have r1 := ro.l1
  refine ⟨_, rfl, D, n, rs, ks, B, rfl, hL, lo, by omega, h2, fun E F H1 s1 hF S => ?_⟩
  refine ⟨_, rfl, E, F, V.ref p, r, 4 * 14 * B + B, 114 * B, rfl, hF, hrow.tu (Tu.of s1), by omega, by omega, Lad.sok_bd S, hra, by omega, fun u a H2 s2 ha hu => ?_⟩
  have s12 := s1.trans s2
  refine ⟨_, rfl, p, _, _, _, rfl, rfl, .of (s12 _ _ hp), rfl, _, rfl, _, _, _, _, rfl, RgC.neg (by omega) (by omega) (by decide) (by decide), ?_⟩
  refine for_it walk_rangeC (fun i σ H' => (∃ z3 z4, σ = [some (.ref D), some (.ref p), some u, z3, z4]) ∧ Same H2 H') ⟨⟨_, _, rfl⟩, fun _ _ e => e⟩ (fun _ _ _ _ _ => trivial) (fun i x σ H3 H4 hi q hy => ?_) (fun σ H3 q => ?_)
  · obtain ⟨⟨z3, z4, rfl⟩, s3⟩ := q
    obtain ⟨rfl, rfl⟩ := hy
    have hi2 : i < (r.l - 0).toNat := hi
    obtain ⟨k, ek, k1, k2⟩ : ∃ k : Int, k = r.l + (i : Int) * -1 ∧ 1 ≤ k ∧ k ≤ r.l := ⟨_, rfl, by omega, by omega⟩
    have hu3 := hu.tu (Tu.of s3)
    refine ⟨_, rfl, _, rfl, u, withA r a, _, rfl, hu3, fun su H5 s5 hsu => ?_⟩
    rw [← ek] at hsu
    obtain ⟨sp, rfl, hsp⟩ := id hsu
    have rb := begin_ok ro a k1 k2
    have sA := s12.trans (s3.trans s5)
    refine ⟨_, rfl, D, _, rfl, dg_ties (sA _ _ hD), _, rfl, by show 1 ≤ sizeLine; decide, fun l nl => ?_⟩
    have sl := same_upd nl (o := .lst [V.ref sp])
    have hlu := pair_len pT
    refine ⟨T, l, us, [V.ref sp], rfl, rfl, sl _ _ (sA _ _ hT), upd_same, line_big (by show us.length + 1 ≤ _; omega), fun m nm => ?_⟩
    have sm := same_upd nm (o := .lst (us ++ [V.ref sp]))
    have sB := sl.trans sm
    have pB : Paired (RowAt (upd (upd H5 l (.lst [V.ref sp])) m (.lst (us ++ [V.ref sp])))) (us ++ [V.ref sp]) (rs ++ [beginR (withA r a) k]) :=
      pair_app (pair_mono pT fun _ _ y => y.tu (Tu.of (sA.trans sB))) (.cons (hsu.tu (Tu.of sB)) .nil)
    have ok2 : ∀ q ∈ rs ++ [beginR (withA r a) k], Lad.RowOk n q := fun q hq => by
      rcases List.mem_append.mp hq with h | h
      · exact lo.rows q h
      · rw [List.mem_singleton.mp h]; exact rb
    have am2 : ∀ q ∈ rs ++ [beginR (withA r a) k], q.a.natAbs ≤ 114 * B := fun q hq => by
      rcases List.mem_append.mp hq with h | h
      · have := lo.ba q h; omega
      · rw [List.mem_singleton.mp h]; exact ha
    have l142 := fun q hq => Lad.RowOk.l14 (ok2 q hq) lo.n14
    have len2 : (rs ++ [beginR (withA r a) k]).length = rs.length + 1 := by rw [List.length_append]; rfl
    have hpl := Lad.pairs_len (m := 14) l142
    rw [len2] at hpl
    refine ⟨m, us ++ [V.ref sp], rs ++ [beginR (withA r a) k], rfl, upd_same, pB, by omega, fun q hq => ⟨(ok2 q hq).l1, by have := l142 q hq; omega⟩, fun A acc H6 s6 nA hA pA => ?_⟩
    have sC := sA.trans (sB.trans s6)
    refine ⟨_, rfl, D, _, rfl, dg_notes (sC _ _ hD), A, N, acc, ws, Lad.pairsOf (rs ++ [beginR (withA r a) k]), ks, 114 * B, 14, rfl, hA, pA, sC _ _ hN, pair_mono pN fun _ _ y => y.tu (Tu.of sC), by omega, Lad.ones_rows _, by omega, Lad.few_rows ok2 lo.kn lo.n14, by decide, Lad.amount_rows am2, fun q hq => by have := lo.bk q hq; omega, fun Hf s no => ⟨rfl, _, rfl, ifN rfl ⟨⟨_, _, rfl⟩, s3.trans (s5.trans (sB.trans (s6.trans s)))⟩⟩, fun E2 F2 Hf s hF2 S2 hall2 => ⟨rfl, _, rfl, ifY rfl ⟨_, rfl, ?_⟩⟩⟩
    exact hQs sp _ _ (sC.trans s) (hsu.tu (Tu.of (sB.trans (s6.trans s)))) ⟨lo.n1, lo.n14, ok2, lo.kn, am2, fun q hq => by have := lo.bk q hq; omega, Lad.sok_sat (Lad.ones_rows _) S2 hall2⟩
  · obtain ⟨⟨z3, z4, rfl⟩, s3⟩ := q
    exact hQn _ (s12.trans s3)
end
end TT

-- W36
set_option Elab.async false
set_option linter.all false
set_option maxRecDepth 100000
set_option maxHeartbeats 4000000
namespace TT
open PySem PySem.Spec PyProof.Rows L2 SX TL
def Bd (i : Nat) : Nat := 10 ^ 20 * 1000 ^ i
theorem bd_succ (i : Nat) : Bd (i + 1) = 1000 * Bd i := by
  unfold Bd
  rw [Nat.pow_succ]
  omega
theorem bd_pos (i : Nat) : 10 ^ 20 ≤ Bd i := Nat.le_mul_of_pos_right _ (Nat.pow_pos (by decide))
theorem bd_mono {i j : Nat} (h : i ≤ j) : Bd i ≤ Bd j := Nat.mul_le_mul_left _ (Nat.pow_le_pow_right (by decide) h)
theorem put_ties {n : Int} {T N M : Addr} : putK (loreK n T N) (.inr "ties") (.ref M) = loreK n M N := by
  have h1 : ¬ (Sum.inr (Str.ofString "notes") : Key) = Sum.inr (Str.ofString "ties") := fun e => k_tn e.symm
  unfold putK
  simp only [List.any_nil, List.any_cons, decide_eq_false k_st, decide_true, Bool.true_or, Bool.false_or, if_true, List.map_cons, List.map_nil, if_neg k_st, if_neg h1]
theorem put_notes {n : Int} {T N M : Addr} : putK (loreK n T N) (.inr "notes") (.ref M) = loreK n T M := by
  unfold putK
  simp only [List.any_nil, List.any_cons, decide_eq_false k_sn, decide_eq_false k_tn, decide_true, Bool.true_or, Bool.false_or, if_true, List.map_cons, List.map_nil, if_neg k_sn, if_neg k_tn]
/-- a lore, apart from a pot -/
def LoreS (H : Hp) (D g : Addr) (n : Int) (rs : List Lad.Row) (ks : Lad.Known) : Prop := ∃ T N us ws, H D = some (.dK (loreK n T N)) ∧ H T = some (.lst us) ∧ Paired (RowAt H) us rs ∧ H N = some (.lst ws) ∧ Paired (KnAt H) ws ks ∧ T ≠ g ∧ N ≠ g
theorem LoreS.lore {H : Hp} {D g : Addr} {n : Int} {rs : List Lad.Row} {ks : Lad.Known} (h : LoreS H D g n rs ks) : LoreAt H D n rs ks := by
  obtain ⟨T, N, us, ws, h1, h2, h3, h4, h5, _⟩ := h
  exact ⟨T, N, us, ws, h1, h2, h3, h4, h5⟩
theorem LoreS.mono {H H' : Hp} {D g : Addr} {n : Int} {rs : List Lad.Row} {ks : Lad.Known} (h : LoreS H D g n rs ks) (s : Same H H') : LoreS H' D g n rs ks := by
  obtain ⟨T, N, us, ws, h1, h2, h3, h4, h5, h6, h7⟩ := h
  exact ⟨T, N, us, ws, s _ _ h1, s _ _ h2, pair_mono h3 fun _ _ y => y.tu (Tu.of s), s _ _ h4, pair_mono h5 fun _ _ y => y.tu (Tu.of s), h6, h7⟩
theorem LoreS.sb {H H' : Hp} {D g : Addr} {n : Int} {rs : List Lad.Row} {ks : Lad.Known} {k : Int} (h : LoreS H D g n rs ks) (hg : PotAt H g k) (s : Sb g H H') : LoreS H' D g n rs ks := by
  obtain ⟨T, N, us, ws, h1, h2, h3, h4, h5, h6, h7⟩ := h
  have nD : D ≠ g := by
    obtain ⟨a, b, d, e, _⟩ := hg
    exact ne_of h1 e (by intro z; cases z)
  have tu := Tu.pot s hg
  exact ⟨T, N, us, ws, s _ _ h1 nD, s _ _ h2 h6, pair_mono h3 fun _ _ y => y.tu tu, s _ _ h4 h7, pair_mono h5 fun _ _ y => y.tu tu, h6, h7⟩
theorem sb_set {g D : Addr} {H H' : Hp} {o : HO} (s : Sb g H H') (h : H D = none) : Sb g H (upd H' D o) := fun q u e n => by
  rw [upd_ne (ne_of_none e h)]
  exact s _ _ e n
theorem PotAt.ne {H : Hp} {g p : Addr} {k : Int} (h : PotAt H g k) (np : H p = none) : p ≠ g := fun e => by
  obtain ⟨a, b, c, h, _⟩ := h
  rw [e, h] at np
  cases np
theorem PotAt.set {H : Hp} {g D : Addr} {k : Int} {kvs : List (Key × V)} {o : HO} (h : PotAt H g k) (hD : H D = some (.dK kvs)) : PotAt (upd H D o) g k := by
  obtain ⟨a, b, c, e, r⟩ := h
  exact ⟨a, b, c, by rw [upd_ne (ne_of e hD (by intro z; cases z))]; exact e, r⟩
theorem tu_set {H : Hp} {D : Addr} {kvs : List (Key × V)} {o : HO} (hD : H D = some (.dK kvs)) : Tu H (upd H D o) := fun q us e => by
  rw [upd_ne (ne_of e hD (by intro z; cases z))]
  exact e
theorem lst_set {H : Hp} {D : Addr} {kvs : List (Key × V)} {o : HO} (hD : H D = some (.dK kvs)) {q : Addr} {us : List V} (e : H q = some (.lst us)) : (upd H D o) q = some (.lst us) := by
  rw [upd_ne (ne_of e hD (by intro z; cases z))]
  exact e
section
variable {P : Program} {w : World} {K : Fg} {mg : Str → Option Value} {base : Heap}
abbrev n__law_lore : List Str := ["_law_pot_here", "_law_size", "_law_ties", "_law_notes", "_law_lore_here", "_law_lap", "_law_row", "_law_place", "_law_hung", "_law_note", "_law_more", "_law_is_new", "_law_one", "_law_known", "_law_own"]
abbrev pr__law_lore : List Str := ["_law_pot_here", "_law_size", "_law_ties", "_law_notes"]
theorem sc__law_lore : FnScope n__law_lore pr__law_lore (defScope s__law_lore) := ⟨rfl, rfl, rfl, by decide +kernel, rfl, by decide +kernel, by decide +kernel⟩

def spLore : Sp := fun vs H Q _ => ∃ (g : Addr) (k : Int), vs = [V.ref g, V.int 14, V.int 4, V.int 2] ∧ PotAt H g k ∧ k ≤ 60000 ∧
  ∀ D n rs ks H', Sb g H H' → H D = none → PotAt H' g (k + 40) → LoreS H' D g n rs ks → Lad.LoreOk n rs ks (10 ^ 38) → rs.length ≤ 4 → ks.length ≤ 2 → Q (V.ref D) H'
theorem ok__law_lore (c : Env K mg) : Pm P w K mg base 5 (d__law_lore.at_ K) spLore := by
  obtain ⟨fd, F⟩ := fd__law_lore c
  refine .mk0 (F.ok sc__law_lore (ps := pr__law_lore) (by intro vs H Q E h; obtain ⟨_, _, rfl, _⟩ := h; rfl) fun cdv A0 outer s0 H vs Q E hr h => ?_) (FunD.bindsN F fun _ _ _ _ _ _ us hl => match us, hl with | [_, _, _, _], _ => rfl) F.kp
  obtain ⟨g, k, rfl, hg, hk, hQ⟩ := h
  have small : ∀ {u : Int}, 1 ≤ u → u ≤ 100 → u.natAbs < 2 ^ 1000 := fun {u} h1 h2 => Nat.lt_of_le_of_lt (show u.natAbs ≤ 100 by omega) (Nat.lt_of_lt_of_le (show 100 < 2 ^ 7 by decide) (Nat.pow_le_pow_right (by decide) (by decide)))
  refine ⟨_, (PSs.nox (pss_cons (ps_set (i := 4) sc__law_lore.nd rfl (Or.inl rfl) (pe_disp (pps_cons pe_str (pe_op op_add pe_int (pe_callF (ok__law_take c) (hr.mono (by decide)) rfl (g__law_take c) (pa_cons (pv 0) (pa_cons (pv 1) pa_nil)))) (pps_cons pe_str (pe_lst pa_nil) (pps_cons pe_str (pe_lst pa_nil) pps_nil))) (by rfl) (by rfl) (List.cons_ne_nil _ _) (by decide)))
    (pss_cons (ps_for PassesOwn.never rfl (pi_range1 rfl (f_range c) (pa_cons (pe_callF (ok__law_take c) (hr.mono (by decide)) rfl (g__law_take c) (pa_cons (pv 0) (pa_cons (pe_op op_add (pv 2) pe_int) pa_nil))) pa_nil)) (pg_name (i := 5) sc__law_lore.nd rfl (Or.inl rfl))
    (pss_cons (ps_set (i := 6) sc__law_lore.nd rfl (Or.inl rfl) (pe_callF (ok__law_fitted c) (hr.mono (by decide)) rfl (g__law_fitted c) (pa_cons (pv 4) (pa_cons (pe_callF (ok__law_drawn_tie c) (hr.mono (by decide)) rfl (g__law_drawn_tie c) (pa_cons (pv 0) (pa_cons (pe_dget (hu_of hr) (pv 4) pe_str (fun _ _ => rfl)) (pa_cons (pe_dget (hu_of hr) (pv 4) pe_str (fun _ _ => rfl)) pa_nil)))) pa_nil))))
    (pss_one (ps_dput (hu_of hr) (pv 4) pe_str (pe_op op_cat (pe_dget (hu_of hr) (pv 4) pe_str (fun _ _ => rfl)) (pe_lc (own := [("_law_one", 12)]) (g := (gName 12)) (tt := _) (by rfl) sc__law_lore.nd (pi_list (pe_lst (pa_cons (pv 6) pa_nil))) (blkOk_by (own := [("_law_one", 12)]) (N := n__law_lore) (sc := defScope s__law_lore) (by decide +kernel)) (fun _ _ _ _ _ => (pg_name (i := 12) sc__law_lore.nd rfl (Or.inl rfl))) (fun _ _ _ _ _ => pts_one (pt_cmpR op_notN (pv 12) pe_non (nomark _))) (fun _ _ _ _ _ => (pv 12)))) rfl))))
    (pss_cons (ps_for PassesOwn.never rfl (pi_range1 rfl (f_range c) (pa_cons (pe_callF (ok__law_take c) (hr.mono (by decide)) rfl (g__law_take c) (pa_cons (pv 0) (pa_cons (pe_op op_add (pv 3) pe_int) pa_nil))) pa_nil)) (pg_name (i := 5) sc__law_lore.nd rfl (Or.inl rfl))
    (pss_cons (ps_set (i := 7) sc__law_lore.nd rfl (Or.inl rfl) (pe_callF (ok__law_take c) (hr.mono (by decide)) rfl (g__law_take c) (pa_cons (pv 0) (pa_cons (pe_dget (hu_of hr) (pv 4) pe_str (fun _ _ => rfl)) pa_nil))))
    (pss_cons (ps_set (i := 8) sc__law_lore.nd rfl (Or.inl rfl) (pe_callF (ok__law_at c) (hr.mono (by decide)) rfl (g__law_at c) (pa_cons (pe_callF (ok__law_found c) (hr.mono (by decide)) rfl (g__law_found c) (pa_cons (pv 4) pa_nil)) (pa_cons (pv 7) pa_nil))))
    (pss_cons (ps_set (i := 9) sc__law_lore.nd rfl (Or.inl rfl) (pe_ifExp (pt_cmpR op_eq (pe_ix ix_tup (pv 8) pe_int (fun _ _ => rfl)) pe_str (nomark _)) (pe_ix ix_tup (pv 8) pe_int (fun _ _ => rfl)) (pe_callF (ok__law_amount c) (hr.mono (by decide)) rfl (g__law_amount c) (pa_cons (pv 0) pa_nil))))
    (pss_cons (ps_set (i := 10) sc__law_lore.nd rfl (Or.inl rfl) (pe_op op_cat (pe_dget (hu_of hr) (pv 4) pe_str (fun _ _ => rfl)) (pe_lst (pa_cons (pe_tup (pa_cons (pv 7) (pa_cons (pv 9) pa_nil))) pa_nil))))
    (pss_cons (ps_set (i := 11) sc__law_lore.nd rfl (Or.inl rfl) (pe_cmpR op_notIn_seq (pv 7) (pe_lc (own := [("_law_known", 13), ("_law_own", 14)]) (g := (gTup _ 2 (gCons (gName 13) (gCons (gName 14) gNil)))) (tt := tYes) (by rfl) sc__law_lore.nd (pi_list (pe_dget (hu_of hr) (pv 4) pe_str (fun _ _ => rfl))) (blkOk_by (own := [("_law_known", 13), ("_law_own", 14)]) (N := n__law_lore) (sc := defScope s__law_lore) (by decide +kernel)) (fun _ _ _ _ _ => (pg_tup rfl (pgs_cons (pg_name (i := 13) sc__law_lore.nd rfl (Or.inl rfl)) (pgs_cons (pg_name (i := 14) sc__law_lore.nd rfl (Or.inl rfl)) pgs_nil)))) (fun _ _ _ _ _ => pts_nil) (fun _ _ _ _ _ => (pv 13))) (by rfl)))
    (pss_one (ps_if (PW.pt (pw_and (pt_val (pv 11)) (pw_and1 (pt_cmpR op_notN (pe_callF (ok__law_settled c) (hr.mono (by decide)) rfl (g__law_settled c) (pa_cons (pe_callF (ok__law_pairs c) (hr.mono (by decide)) rfl (g__law_pairs c) (pa_cons (pe_dget (hu_of hr) (pv 4) pe_str (fun _ _ => rfl)) pa_nil)) (pa_cons (pv 10) pa_nil))) pe_non (nomark _))))) (pss_one (ps_dput (hu_of hr) (pv 4) pe_str (pv 10) rfl)) pss_nil))))))))
    (pss_one (ps_ret (pv 4))))))), ?_⟩
  intro D nD
  have sD := same_upd nD (o := .dK [])
  have hD0 := @upd_same H D (.dK [])
  have gD := hg.mono sD
  revert sD hD0 gD
  generalize upd H D (.dK []) = H1
  intro sD hD0 gD
  refine ⟨_, rfl, _, rfl, g, 14, k, rfl, gD, by omega, by decide, small (by decide) (by decide), fun r H2 r0 r1 s2 g2 => ⟨_, _, rfl, rfl, ?_⟩⟩
  refine ⟨Nat.zero_le _, fun T nT => ⟨Nat.zero_le _, fun N nN => ?_⟩⟩
  have sT := same_upd nT (o := .lst [])
  have sN := same_upd nN (o := .lst [])
  have nDg : D ≠ g := hg.ne nD
  have hD2 := s2 _ _ hD0 nDg
  refine ⟨sN _ _ (sT _ _ hD2), [(.inr "size", V.int (1 + r)), (.inr "ties", V.ref T), (.inr "notes", V.ref N)], rfl, (show 3 ≤ 15 by decide), ?_⟩
  rw [lore_mk]
  obtain ⟨n, en, n1, n14⟩ : ∃ n : Int, n = 1 + r ∧ 1 ≤ n ∧ n ≤ 14 := ⟨_, rfl, by omega, by omega⟩
  rw [← en]
  have L0 : LoreS (upd (upd (upd H2 T (.lst [])) N (.lst [])) D (.dK (loreK n T N))) D g n [] [] :=
    ⟨T, N, [], [], upd_same, lst_set (sN _ _ (sT _ _ hD2)) (sN _ _ upd_same), .nil, lst_set (sN _ _ (sT _ _ hD2)) upd_same, .nil, g2.ne nT, (g2.mono sT).ne nN⟩
  have S0 : Sb g H (upd (upd (upd H2 T (.lst [])) N (.lst [])) D (.dK (loreK n T N))) := sb_set ((Sb.of sD).trans (s2.trans (Sb.of (sT.trans sN)))) nD
  have G0 : PotAt (upd (upd (upd H2 T (.lst [])) N (.lst [])) D (.dK (loreK n T N))) g (k + 1) := (g2.mono (sT.trans sN)).set (sN _ _ (sT _ _ hD2))
  revert L0 S0 G0
  generalize upd (upd (upd H2 T (.lst [])) N (.lst [])) D (.dK (loreK n T N)) = H3
  intro L0 S0 G0
  have O0 : Lad.LoreOk n [] [] (Bd 0) := ⟨n1, n14, (fun _ h => nomatch h), (fun _ h => nomatch h), (fun _ h => nomatch h), (fun _ h => nomatch h), fun _ => 0, (fun _ h => nomatch h), (fun _ h => nomatch h)⟩
  refine ⟨_, rfl, _, rfl, _, _, rfl, rfl, g, _, _, rfl, G0, by omega, by decide, small (by decide) (by decide), fun t H3' t0 t1 s3 g3 => ?_⟩
  have L3 := L0.sb G0 s3
  have S3 := S0.trans s3
  refine ⟨_, rfl, by omega, by omega, ?_⟩
  refine for_it walk_range (fun i σ H' => ∃ (rs : List Lad.Row) (z5 z6 z7 z8 z9 z10 z11 z12 z13 z14 : Option V), σ = [some (.ref g), some (.int 14), some (.int 4), some (.int 2), some (.ref D), z5, z6, z7, z8, z9, z10, z11, z12, z13, z14] ∧ LoreS H' D g n rs [] ∧ (Lad.LoreOk n rs [] (Bd i) ∧ rs.length ≤ i) ∧ Sb g H H' ∧ PotAt H' g (k + 2 + 7 * i)) ⟨[], _, _, _, _, _, _, _, _, _, _, rfl, L3, ⟨O0, Nat.le_refl _⟩, S3, g3.le (by omega)⟩ (fun _ _ _ _ _ => trivial) (fun i x σ H4' H4 hi q hy => ?_) (fun σ H4 q => ?_)
  · obtain ⟨rs, z5, z6, z7, z8, z9, z10, z11, z12, z13, z14, rfl, L4, ⟨O4, len4⟩, S4, g4⟩ := q
    obtain ⟨rfl, rfl⟩ := hy
    have hi4 : i < 5 := by have : i < t.toNat := hi; omega
    have hi4' : i < 4 := by have : i < t.toNat := hi; omega
    obtain ⟨T4, N4, us4, ws4, hD4, _⟩ := id L4
    refine ⟨_, rfl, _, rfl, _, rfl, D, _, rfl, dg_size hD4, _, rfl, D, _, rfl, dg_size hD4, g, n, _, rfl, g4, by omega, n1, by omega, fun v r H5 s5 g5 ro ra hv => ?_⟩
    have L5 := L4.sb g4 s5
    obtain ⟨T5, N5, us5, ws5, hD5, hT5, pu5, hN5, pw5, nT5, nN5⟩ := id L5
    have hbp := bd_pos i
    have hbs := bd_succ i
    have hrs4 : rs.length ≤ 3 := by omega
    refine ⟨D, v, n, rs, [], r, Bd i, rfl, L5.lore, O4, hrs4, by decide, hv, ro, by omega, fun Hf sf => ?_, fun p r' Hf sf hp lo' => ?_⟩
    · have O5 := O4.mono (B' := Bd (i + 1)) (by omega)
      refine ⟨_, rfl, D, _, rfl, dg_ties (sf _ _ hD5), _, rfl, by show 1 ≤ sizeLine; decide, fun l nl => ⟨l, rfl, ⟨_, .of upd_same⟩, fun Lc nLc => ?_⟩⟩
      have sl := same_upd nl (o := .lst [V.non])
      have hl := @upd_same Hf l (.lst [V.non])
      refine lc_it (walk_list (xs := [V.non])) (fun i H' => H' Lc = some (.lst (if i = 0 then [] else ([] : List V))) ∧ Same (upd Hf l (.lst [V.non])) H') ⟨upd_same, same_upd nLc⟩ (fun i H' _ q => SqL.of (K := K) (q.2 _ _ hl)) (fun j x H6 H7 hj q hy => ?_) (fun H6 q => ?_)
      · obtain ⟨hLc, s6⟩ := q
        obtain ⟨rfl, hy⟩ := hy
        have hj0 : j = 0 := by have : j < 1 := hj; omega
        subst hj0
        have ex : x = V.non := (Option.some.inj hy).symm
        subst ex
        refine ⟨rfl, _, rfl, rfl, _, rfl, ifN rfl ⟨?_, s6⟩⟩
        exact hLc
      · obtain ⟨hLc, s6⟩ := q
        have hLc : H6 Lc = some (.lst ([] : List V)) := hLc
        have sA : Same H5 H6 := sf.trans (sl.trans s6)
        have lu := pair_len pu5
        refine ⟨T5, Lc, us5, ([] : List V), rfl, rfl, sA _ _ hT5, hLc, line_big (by show us5.length + 0 ≤ _; omega), fun M nM => ?_⟩
        have sM := same_upd nM (o := .lst (us5 ++ ([] : List V)))
        have sB : Same H5 (upd H6 M (.lst (us5 ++ ([] : List V)))) := sA.trans sM
        have hDB := sB _ _ hD5
        refine ⟨_, rfl, D, _, rfl, DPut.k (k := .inr "ties") hDB (lt_line (by show 3 ≤ _; omega)), ?_⟩
        rw [put_ties]
        have gB := (g5.mono sB).set (o := .dK (loreK n M N5)) hDB
        have nMg := (g5.mono sA).ne nM
        refine ⟨rs, _, _, _, _, _, _, _, _, _, _, rfl, ⟨M, N5, us5 ++ ([] : List V), ws5, upd_same, lst_set hDB upd_same, by have z := pair_app (pair_mono pu5 fun _ _ y => y.tu ((Tu.of sB).trans (tu_set (o := .dK (loreK n M N5)) hDB))) (Paired.nil (F := RowAt _)); rw [List.append_nil rs] at z; exact z, lst_set hDB (sB _ _ hN5), pair_mono pw5 fun _ _ y => y.tu ((Tu.of sB).trans (tu_set hDB)), nMg, nN5⟩, ⟨O5, by omega⟩, sb_set (S4.trans (s5.trans (Sb.of sB))) nD, gB.le (by omega)⟩
    · have O5 := lo'.mono (B' := Bd (i + 1)) (by omega)
      have len5 : (rs ++ [r']).length = rs.length + 1 := by rw [List.length_append]; rfl
      refine ⟨_, rfl, D, _, rfl, dg_ties (sf _ _ hD5), _, rfl, by show 1 ≤ sizeLine; decide, fun l nl => ⟨l, rfl, ⟨_, .of upd_same⟩, fun Lc nLc => ?_⟩⟩
      have sl := same_upd nl (o := .lst [V.ref p])
      have hl := @upd_same Hf l (.lst [V.ref p])
      refine lc_it (walk_list (xs := [V.ref p])) (fun i H' => H' Lc = some (.lst (if i = 0 then [] else [V.ref p])) ∧ Same (upd Hf l (.lst [V.ref p])) H') ⟨upd_same, same_upd nLc⟩ (fun i H' _ q => SqL.of (K := K) (q.2 _ _ hl)) (fun j x H6 H7 hj q hy => ?_) (fun H6 q => ?_)
      · obtain ⟨hLc, s6⟩ := q
        obtain ⟨rfl, hy⟩ := hy
        have hj0 : j = 0 := by have : j < 1 := hj; omega
        subst hj0
        have ex : x = V.ref p := (Option.some.inj hy).symm
        subst ex
        refine ⟨rfl, _, rfl, rfl, _, rfl, ifY rfl ⟨_, rfl, _, hLc, lt_line (by show 0 ≤ _; omega), upd_same, same_set s6 nLc⟩⟩
      · obtain ⟨hLc, s6⟩ := q
        have hLc : H6 Lc = some (.lst [V.ref p]) := hLc
        have sA : Same H5 H6 := sf.trans (sl.trans s6)
        have lu := pair_len pu5
        refine ⟨T5, Lc, us5, [V.ref p], rfl, rfl, sA _ _ hT5, hLc, line_big (by show us5.length + 1 ≤ _; omega), fun M nM => ?_⟩
        have sM := same_upd nM (o := .lst (us5 ++ [V.ref p]))
        have sB : Same H5 (upd H6 M (.lst (us5 ++ [V.ref p]))) := sA.trans sM
        have hDB := sB _ _ hD5
        refine ⟨_, rfl, D, _, rfl, DPut.k (k := .inr "ties") hDB (lt_line (by show 3 ≤ _; omega)), ?_⟩
        rw [put_ties]
        have gB := (g5.mono sB).set (o := .dK (loreK n M N5)) hDB
        have nMg := (g5.mono sA).ne nM
        refine ⟨rs ++ [r'], _, _, _, _, _, _, _, _, _, _, rfl, ⟨M, N5, us5 ++ [V.ref p], ws5, upd_same, lst_set hDB upd_same, pair_app (pair_mono pu5 fun _ _ y => y.tu ((Tu.of sB).trans (tu_set hDB))) (.cons (hp.tu ((Tu.of (sl.trans (s6.trans sM))).trans (tu_set hDB))) .nil), lst_set hDB (sB _ _ hN5), pair_mono pw5 fun _ _ y => y.tu ((Tu.of sB).trans (tu_set hDB)), nMg, nN5⟩, ⟨O5, by omega⟩, sb_set (S4.trans (s5.trans (Sb.of sB))) nD, gB.le (by omega)⟩
  · obtain ⟨rs, z5, z6, z7, z8, z9, z10, z11, z12, z13, z14, rfl, L4, ⟨O4, len4⟩, S4, g4⟩ := q
    have lt4 : t.toNat ≤ 4 := by omega
    have O5 := O4.mono (bd_mono lt4)
    refine ⟨_, rfl, _, rfl, _, _, rfl, rfl, g, _, _, rfl, g4, by omega, by decide, small (by decide) (by decide), fun u H5 u0 u1 s5 g5 => ?_⟩
    have L5 := L4.sb g4 s5
    refine ⟨_, rfl, by omega, by omega, ?_⟩
    refine for_it walk_range (fun i σ H' => ∃ (ks : Lad.Known) (z5 z6 z7 z8 z9 z10 z11 z12 z13 z14 : Option V), σ = [some (.ref g), some (.int 14), some (.int 4), some (.int 2), some (.ref D), z5, z6, z7, z8, z9, z10, z11, z12, z13, z14] ∧ LoreS H' D g n rs ks ∧ (Lad.LoreOk n rs ks (Bd (4 + i)) ∧ ks.length ≤ i) ∧ Sb g H H' ∧ PotAt H' g (k + 31 + 3 * i)) ⟨[], _, _, _, _, _, _, _, _, _, _, rfl, L5, ⟨O5, Nat.le_refl _⟩, S4.trans s5, g5.le (by omega)⟩ (fun _ _ _ _ _ => trivial) (fun i x σ H6' H6 hi q hy => ?_) (fun σ H6 q => ?_)
    · obtain ⟨ks, z5, z6, z7, z8, z9, z10, z11, z12, z13, z14, rfl, L6, ⟨O6, len6⟩, S6, g6⟩ := q
      obtain ⟨rfl, rfl⟩ := hy
      have hi2 : i < 2 := by have : i < u.toNat := hi; omega
      have hlrs : rs.length ≤ 4 := by omega
      have l14 := fun r hr => Lad.RowOk.l14 (O6.rows r hr) n14
      have hpl := Lad.pairs_len (m := 14) l14
      have hbp := bd_pos (4 + i)
      have hbs : Bd (4 + (i + 1)) = 1000 * Bd (4 + i) := bd_succ (4 + i)
      have br : ∀ {c : Bool} {A B : Prop}, (c = true → A) → (c = false → B) → (if c = true then A else B) := fun {c A B} h1 h2 => by
        cases c
        · exact h2 rfl
        · exact h1 rfl
      obtain ⟨T6, N6, us6, ws6, hD6, _⟩ := id L6
      refine ⟨_, rfl, _, rfl, D, _, rfl, dg_size hD6, g, n, _, rfl, g6, by omega, n1, small n1 (by omega), fun p H7 p0 p1 s7 g7 => ?_⟩
      have L7 := L6.sb g6 s7
      refine ⟨_, rfl, D, n, rs, ks, Bd (4 + i), rfl, L7.lore, O6, hlrs, by omega, fun E F H8 s8 hF S => ?_⟩
      refine ⟨_, rfl, E, F, p, rfl, hF, fun v H9 s9 ha => ?_⟩
      have hbd := Lad.sok_bd S p
      revert ha hbd
      generalize (F.lookup p).getD (.hang false p 0) = A
      intro ha hbd
      have L9 := (L7.mono s8).mono s9
      have g9 := (g7.mono s8).mono s9
      have S9 : Sb g H H9 := S6.trans (s7.trans (Sb.of (s8.trans s9)))
      cases A with
      | told m =>
        obtain ⟨q, rfl, hq⟩ := ha
        have hm0 : m.natAbs ≤ 4 * 14 * Bd (4 + i) + Bd (4 + i) := hbd
        have hm : m.natAbs ≤ Bd (4 + (i + 1)) := by omega
        refine ⟨_, rfl, q, _, _, _, rfl, rfl, .of hq, rfl, rfl, _, rfl, ifY tt_ ⟨_, rfl, q, _, _, _, rfl, rfl, .of hq, rfl, ?_⟩⟩
        obtain ⟨Tc, Nc, usc, wsc, hDc, hTc, puc, hNc, pwc, nTc, nNc⟩ := id L9
        refine ⟨_, rfl, D, _, rfl, dg_notes hDc, _, rfl, _, rfl, by show 2 ≤ sizeLine; decide, fun q2 nq2 => ⟨by show 1 ≤ sizeLine; decide, fun l nl => ?_⟩⟩
        have sq := same_upd nq2 (o := .tup [V.int p, V.int m])
        have sl := same_upd nl (o := .lst [V.ref q2])
        have sql := sq.trans sl
        have lw := pair_len pwc
        have lu := pair_len puc
        refine ⟨Nc, l, wsc, [V.ref q2], rfl, rfl, sql _ _ hNc, upd_same, line_big (by show wsc.length + 1 ≤ _; omega), fun M nM => ?_⟩
        have sM := same_upd nM (o := .lst (wsc ++ [V.ref q2]))
        have sA := sql.trans sM
        have hM := @upd_same (upd (upd H9 q2 (.tup [V.int p, V.int m])) l (.lst [V.ref q2])) M (.lst (wsc ++ [V.ref q2]))
        have hq2 := sM _ _ (sl _ _ (@upd_same H9 q2 (.tup [V.int p, V.int m])))
        have nMg := (g9.mono sql).ne nM
        revert sA hM hq2
        generalize upd (upd (upd H9 q2 (.tup [V.int p, V.int m])) l (.lst [V.ref q2])) M (.lst (wsc ++ [V.ref q2])) = H11
        intro sA hM hq2
        have pM : Paired (KnAt H11) (wsc ++ [V.ref q2]) (ks ++ [(p, m)]) := pair_app (pair_mono pwc fun _ _ y => y.tu (Tu.of sA)) (.cons ⟨q2, rfl, hq2⟩ .nil)
        refine ⟨_, rfl, _, rfl, D, _, rfl, dg_notes (sA _ _ hDc), Nc, rfl, ⟨_, .of (sA _ _ hNc)⟩, fun Li nLi => ?_⟩
        refine lc_it (walk_list (xs := wsc)) (fun i H' => H' Li = some (.lst ((ks.map fun k => V.int k.1).take i)) ∧ Same H11 H') ⟨upd_same, same_upd nLi⟩ (fun i H' _ q => SqL.of (K := K) (q.2 _ _ (sA _ _ hNc))) (fun j x H12' H12 hj q hy => ?_) (fun H12 q => ?_)
        · obtain ⟨hLi, s12⟩ := q
          obtain ⟨rfl, hy⟩ := hy
          obtain ⟨kn, hk1, hkn⟩ := pair_get pwc hy
          obtain ⟨pk, rfl, hpk⟩ := hkn.tu (Tu.of (sA.trans s12))
          refine ⟨pk, _, rfl, .of hpk, rfl, _, _, rfl, _, _, rfl, rfl, rfl, _, rfl, _, hLi, lt_line (by rw [List.length_take, List.length_map]; omega), ?_, same_set s12 nLi⟩
          rw [upd_same, List.take_add_one, List.getElem?_map, hk1]
          rfl
        · obtain ⟨hLi, s12⟩ := q
          rw [List.take_of_length_le (by rw [List.length_map]; omega)] at hLi
          have hfl : (ks.map fun k => V.int k.1).all flatV = true := List.all_eq_true.mpr fun v hv => by
            obtain ⟨z, _, rfl⟩ := List.mem_map.mp hv
            rfl
          have sB := sA.trans s12
          have L12 := L9.mono sB
          have g12 := g9.mono sB
          have S12 : Sb g H H12 := S9.trans (Sb.of sB)
          have O7 := O6.mono (B' := Bd (4 + (i + 1))) (by omega)
          refine ⟨Li, _, rfl, .inl (.of hLi), rfl, hfl, ?_⟩
          refine ⟨_, rfl, _, rfl, br (fun _ => ?_) (fun _ => ifN rfl ⟨ks, _, _, _, _, _, _, _, _, _, _, rfl, L12, ⟨O7, by omega⟩, S12, g12.le (by omega)⟩)⟩
          refine ⟨_, rfl, D, _, rfl, dg_ties (sB _ _ hDc), Tc, usc, rs, rfl, sB _ _ hTc, pair_mono puc fun _ _ y => y.tu (Tu.of sB), by omega, fun r hr => ⟨(O6.rows r hr).l1, by have := l14 r hr; omega⟩, fun A acc H13 s13 nA hA pA => ?_⟩
          have s1213 := s12.trans s13
          have len7 : (ks ++ [(p, m)]).length = ks.length + 1 := by rw [List.length_append]; rfl
          have kn7 : ∀ k ∈ ks ++ [(p, m)], 0 ≤ k.1 ∧ k.1 < n := fun k hk => by
            rcases List.mem_append.mp hk with h | h
            · exact O6.kn k h
            · rw [List.mem_singleton.mp h]; exact ⟨p0, p1⟩
          have bk7 : ∀ k ∈ ks ++ [(p, m)], k.2.natAbs ≤ Bd (4 + (i + 1)) := fun k hk => by
            rcases List.mem_append.mp hk with h | h
            · exact O7.bk k h
            · rw [List.mem_singleton.mp h]; exact hm
          refine ⟨_, rfl, A, M, acc, wsc ++ [V.ref q2], Lad.pairsOf rs, ks ++ [(p, m)], Bd (4 + (i + 1)), 14, rfl, hA, pA, s1213 _ _ hM, pair_mono pM fun _ _ y => y.tu (Tu.of s1213), by omega, Lad.ones_rows rs, by omega, Lad.few_rows O6.rows kn7 n14, by decide, Lad.amount_rows O7.ba, bk7, fun Hf sf no => ⟨rfl, _, rfl, ifN rfl ⟨ks, _, _, _, _, _, _, _, _, _, _, rfl, L12.mono (s13.trans sf), ⟨O7, by omega⟩, S12.trans (Sb.of (s13.trans sf)), (g12.mono (s13.trans sf)).le (by omega)⟩⟩, fun E2 F2 Hf sf hF2 S2 hall2 => ⟨rfl, _, rfl, ifY rfl ?_⟩⟩
          have sF : Same H11 Hf := s1213.trans sf
          have sG := sA.trans sF
          have hDf := sG _ _ hDc
          refine ⟨_, rfl, _, rfl, D, _, rfl, DPut.k (k := .inr "notes") hDf (lt_line (by show 3 ≤ _; omega)), ?_⟩
          rw [put_notes]
          refine ⟨ks ++ [(p, m)], _, _, _, _, _, _, _, _, _, _, rfl, ⟨Tc, M, usc, wsc ++ [V.ref q2], upd_same, lst_set hDf (sG _ _ hTc), pair_mono puc fun _ _ y => y.tu ((Tu.of sG).trans (tu_set hDf)), lst_set hDf (sF _ _ hM), pair_mono pM fun _ _ y => y.tu ((Tu.of sF).trans (tu_set hDf)), nTc, nMg⟩, ⟨⟨n1, n14, O7.rows, kn7, O7.ba, bk7, Lad.sok_sat (Lad.ones_rows _) S2 hall2⟩, by omega⟩, sb_set (S9.trans (Sb.of sG)) nD, ((g9.mono sG).set hDf).le (by omega)⟩
      | hang d r0 x0 =>
        obtain ⟨q, rfl, hq⟩ := ha
        refine ⟨_, rfl, q, _, _, _, rfl, rfl, .of hq, rfl, rfl, _, rfl, ifN (wt d) ⟨_, rfl, g, _, rfl, g9, by omega, fun m H10 hm0 s10 g10 => ?_⟩⟩
        have hm : m.natAbs ≤ Bd (4 + (i + 1)) := by omega
        have L10 := L9.sb g9 s10
        have S10 := S9.trans s10
        obtain ⟨Tc, Nc, usc, wsc, hDc, hTc, puc, hNc, pwc, nTc, nNc⟩ := id L10
        refine ⟨_, rfl, D, _, rfl, dg_notes hDc, _, rfl, _, rfl, by show 2 ≤ sizeLine; decide, fun q2 nq2 => ⟨by show 1 ≤ sizeLine; decide, fun l nl => ?_⟩⟩
        have sq := same_upd nq2 (o := .tup [V.int p, V.int m])
        have sl := same_upd nl (o := .lst [V.ref q2])
        have sql := sq.trans sl
        have lw := pair_len pwc
        have lu := pair_len puc
        refine ⟨Nc, l, wsc, [V.ref q2], rfl, rfl, sql _ _ hNc, upd_same, line_big (by show wsc.length + 1 ≤ _; omega), fun M nM => ?_⟩
        have sM := same_upd nM (o := .lst (wsc ++ [V.ref q2]))
        have sA := sql.trans sM
        have hM := @upd_same (upd (upd H10 q2 (.tup [V.int p, V.int m])) l (.lst [V.ref q2])) M (.lst (wsc ++ [V.ref q2]))
        have hq2 := sM _ _ (sl _ _ (@upd_same H10 q2 (.tup [V.int p, V.int m])))
        have nMg := (g10.mono sql).ne nM
        revert sA hM hq2
        generalize upd (upd (upd H10 q2 (.tup [V.int p, V.int m])) l (.lst [V.ref q2])) M (.lst (wsc ++ [V.ref q2])) = H11
        intro sA hM hq2
        have pM : Paired (KnAt H11) (wsc ++ [V.ref q2]) (ks ++ [(p, m)]) := pair_app (pair_mono pwc fun _ _ y => y.tu (Tu.of sA)) (.cons ⟨q2, rfl, hq2⟩ .nil)
        refine ⟨_, rfl, _, rfl, D, _, rfl, dg_notes (sA _ _ hDc), Nc, rfl, ⟨_, .of (sA _ _ hNc)⟩, fun Li nLi => ?_⟩
        refine lc_it (walk_list (xs := wsc)) (fun i H' => H' Li = some (.lst ((ks.map fun k => V.int k.1).take i)) ∧ Same H11 H') ⟨upd_same, same_upd nLi⟩ (fun i H' _ q => SqL.of (K := K) (q.2 _ _ (sA _ _ hNc))) (fun j x H12' H12 hj q hy => ?_) (fun H12 q => ?_)
        · obtain ⟨hLi, s12⟩ := q
          obtain ⟨rfl, hy⟩ := hy
          obtain ⟨kn, hk1, hkn⟩ := pair_get pwc hy
          obtain ⟨pk, rfl, hpk⟩ := hkn.tu (Tu.of (sA.trans s12))
          refine ⟨pk, _, rfl, .of hpk, rfl, _, _, rfl, _, _, rfl, rfl, rfl, _, rfl, _, hLi, lt_line (by rw [List.length_take, List.length_map]; omega), ?_, same_set s12 nLi⟩
          rw [upd_same, List.take_add_one, List.getElem?_map, hk1]
          rfl
        · obtain ⟨hLi, s12⟩ := q
          rw [List.take_of_length_le (by rw [List.length_map]; omega)] at hLi
          have hfl : (ks.map fun k => V.int k.1).all flatV = true := List.all_eq_true.mpr fun v hv => by
            obtain ⟨z, _, rfl⟩ := List.mem_map.mp hv
            rfl
          have sB := sA.trans s12
          have L12 := L10.mono sB
          have g12 := g10.mono sB
          have S12 : Sb g H H12 := S10.trans (Sb.of sB)
          have O7 := O6.mono (B' := Bd (4 + (i + 1))) (by omega)
          refine ⟨Li, _, rfl, .inl (.of hLi), rfl, hfl, ?_⟩
          refine ⟨_, rfl, _, rfl, br (fun _ => ?_) (fun _ => ifN rfl ⟨ks, _, _, _, _, _, _, _, _, _, _, rfl, L12, ⟨O7, by omega⟩, S12, g12.le (by omega)⟩)⟩
          refine ⟨_, rfl, D, _, rfl, dg_ties (sB _ _ hDc), Tc, usc, rs, rfl, sB _ _ hTc, pair_mono puc fun _ _ y => y.tu (Tu.of sB), by omega, fun r hr => ⟨(O6.rows r hr).l1, by have := l14 r hr; omega⟩, fun A acc H13 s13 nA hA pA => ?_⟩
          have s1213 := s12.trans s13
          have len7 : (ks ++ [(p, m)]).length = ks.length + 1 := by rw [List.length_append]; rfl
          have kn7 : ∀ k ∈ ks ++ [(p, m)], 0 ≤ k.1 ∧ k.1 < n := fun k hk => by
            rcases List.mem_append.mp hk with h | h
            · exact O6.kn k h
            · rw [List.mem_singleton.mp h]; exact ⟨p0, p1⟩
          have bk7 : ∀ k ∈ ks ++ [(p, m)], k.2.natAbs ≤ Bd (4 + (i + 1)) := fun k hk => by
            rcases List.mem_append.mp hk with h | h
            · exact O7.bk k h
            · rw [List.mem_singleton.mp h]; exact hm
          refine ⟨_, rfl, A, M, acc, wsc ++ [V.ref q2], Lad.pairsOf rs, ks ++ [(p, m)], Bd (4 + (i + 1)), 14, rfl, hA, pA, s1213 _ _ hM, pair_mono pM fun _ _ y => y.tu (Tu.of s1213), by omega, Lad.ones_rows rs, by omega, Lad.few_rows O6.rows kn7 n14, by decide, Lad.amount_rows O7.ba, bk7, fun Hf sf no => ⟨rfl, _, rfl, ifN rfl ⟨ks, _, _, _, _, _, _, _, _, _, _, rfl, L12.mono (s13.trans sf), ⟨O7, by omega⟩, S12.trans (Sb.of (s13.trans sf)), (g12.mono (s13.trans sf)).le (by omega)⟩⟩, fun E2 F2 Hf sf hF2 S2 hall2 => ⟨rfl, _, rfl, ifY rfl ?_⟩⟩
          have sF : Same H11 Hf := s1213.trans sf
          have sG := sA.trans sF
          have hDf := sG _ _ hDc
          refine ⟨_, rfl, _, rfl, D, _, rfl, DPut.k (k := .inr "notes") hDf (lt_line (by show 3 ≤ _; omega)), ?_⟩
          rw [put_notes]
          refine ⟨ks ++ [(p, m)], _, _, _, _, _, _, _, _, _, _, rfl, ⟨Tc, M, usc, wsc ++ [V.ref q2], upd_same, lst_set hDf (sG _ _ hTc), pair_mono puc fun _ _ y => y.tu ((Tu.of sG).trans (tu_set hDf)), lst_set hDf (sF _ _ hM), pair_mono pM fun _ _ y => y.tu ((Tu.of sF).trans (tu_set hDf)), nTc, nMg⟩, ⟨⟨n1, n14, O7.rows, kn7, O7.ba, bk7, Lad.sok_sat (Lad.ones_rows _) S2 hall2⟩, by omega⟩, sb_set (S10.trans (Sb.of sG)) nD, ((g10.mono sG).set hDf).le (by omega)⟩
    · obtain ⟨ks, z5, z6, z7, z8, z9, z10, z11, z12, z13, z14, rfl, L6, ⟨O6, len6⟩, S6, g6⟩ := q
      have lt2 : u.toNat ≤ 2 := by omega
      have h38 : Bd 6 ≤ 10 ^ 38 := by unfold Bd; decide +kernel
      exact ⟨_, rfl, hQ D n rs ks _ S6 nD (g6.le (by omega)) L6 (O6.mono (Nat.le_trans (bd_mono (by omega)) h38)) (by omega) (by omega)⟩
end
end TT

-- W37
set_option Elab.async false
set_option linter.all false
set_option maxRecDepth 100000
set_option maxHeartbeats 4000000
namespace TT
open PySem PySem.Spec PyProof.Rows L2 SX TL
section
variable {P : Program} {w : World} {K : Fg} {mg : Str → Option Value} {base : Heap}
abbrev n__law_cells : List Str := ["_law_script", "_law_most"]
abbrev pr__law_cells : List Str := ["_law_script", "_law_most"]
theorem sc__law_cells : FnScope n__law_cells pr__law_cells (defScope s__law_cells) := ⟨rfl, rfl, rfl, by decide +kernel, rfl, by decide +kernel, by decide +kernel⟩

def spCells (K : Fg) : Sp := fun vs H Q _ => ∃ (s : Addr) (ns : List Int), vs = [V.ref s, V.int 3] ∧ SqL K H s (ns.map V.int) ∧ ∀ a (cs : List Int) H', (∀ x ∈ cs, 0 ≤ x ∧ x ≤ 10) → Same H H' → H' a = some (.lst (cs.map V.int)) → Q (V.ref a) H'
theorem ok__law_cells (c : Env K mg) : Pm P w K mg base 1 (d__law_cells.at_ K) (spCells K) := by
  obtain ⟨fd, F⟩ := fd__law_cells c
  refine .mk0 (F.ok sc__law_cells (ps := pr__law_cells) (by intro vs H Q E h; obtain ⟨_, _, rfl, _⟩ := h; rfl) fun cdv A0 outer s0 H vs Q E hr h => ?_) (FunD.bindsN F fun _ _ _ _ _ _ us hl => match us, hl with | [_, _], _ => rfl) F.kp
  obtain ⟨s, ns, rfl, hs, hQ⟩ := h
  refine ⟨_, (PSs.nox (pss_one (ps_ret (pe_listRg rfl (by rfl) (f_list c) (prg_1 (by rfl) (f_range c) (pe_callB (call_max2 rfl) (by rfl) (f_max c) (by decide +kernel) (pa_cons pe_int (pa_cons (pe_callB (call_min2 rfl) (by rfl) (f_min c) (by decide +kernel) (pa_cons (pv 1) (pa_cons (pe_callB call_len_seq (by rfl) (f_len c) (by decide +kernel) (pa_cons (pv 0) pa_nil)) pa_nil))) pa_nil)))))))), ?_⟩
  refine ⟨_, rfl, _, rfl, s, _, rfl, .inl hs, _, _, rfl, _, _, rfl, ?_⟩
  generalize ((ns.map V.int).length : Int) = z
  obtain ⟨m, em, m0, m3⟩ : ∃ m : Int, m = (if (if z < 3 then z else 3) > 1 then (if z < 3 then z else 3) else 1) ∧ 0 ≤ m ∧ m ≤ 3 := ⟨_, rfl, by split <;> split <;> omega, by split <;> split <;> omega⟩
  refine ⟨m, congrArg V.int em.symm, RgOk.of_le (by decide) (by omega) (by decide) m0, fun q nq => ?_⟩
  refine hQ q ((List.range (m - 0).toNat).map fun i => (0 + (i : Nat) : Int)) _ (fun x hx => ?_) (same_upd nq) ?_
  · obtain ⟨i, hi, rfl⟩ := List.mem_map.mp hx
    have := List.mem_range.mp hi
    omega
  · rw [upd_same, List.map_map]
    rfl
abbrev n__law_offsets : List Str := ["_law_pot_here", "_law_wide", "_law_some"]
abbrev pr__law_offsets : List Str := ["_law_pot_here", "_law_wide"]
theorem sc__law_offsets : FnScope n__law_offsets pr__law_offsets (defScope s__law_offsets) := ⟨rfl, rfl, rfl, by decide +kernel, rfl, by decide +kernel, by decide +kernel⟩

def spOffsets : Sp := fun vs H Q _ => ∃ (g : Addr) (wd k : Int), vs = [V.ref g, V.int wd] ∧ PotAt H g k ∧ k ≤ 80000 ∧ 1 ≤ wd ∧ ∀ (a : Addr) (os : List Int) H', Sb g H H' → PotAt H' g (k + 10) → H' a = some (.lst (os.map V.int)) → a ≠ g → os.length ≤ 6 → (∀ o ∈ os, 0 ≤ o ∧ o < wd) → Q (V.ref a) H'
theorem ok__law_offsets (c : Env K mg) : Pm P w K mg base 3 (d__law_offsets.at_ K) spOffsets := by
  obtain ⟨fd, F⟩ := fd__law_offsets c
  refine .mk0 (F.ok sc__law_offsets (ps := pr__law_offsets) (by intro vs H Q E h; obtain ⟨_, _, _, rfl, _⟩ := h; rfl) fun cdv A0 outer s0 H vs Q E hr h => ?_) (FunD.bindsN F fun _ _ _ _ _ _ us hl => match us, hl with | [_, _], _ => rfl) F.kp
  obtain ⟨g, wd, k, rfl, hg, hk, w1, hQ⟩ := h
  refine ⟨_, (PSs.nox (pss_cons (ps_set (i := 2) sc__law_offsets.nd rfl (Or.inl rfl) (pe_lst (pa_cons pe_int (pa_cons (pe_op op_sub (pv 1) pe_int) (pa_cons (pe_op op_fdiv (pv 1) pe_int) (pa_cons (pe_op op_fdiv (pe_op op_sub (pv 1) pe_int) pe_int) (pa_cons (pe_callF (ok__law_far c) (hr.mono (by decide)) rfl (g__law_far c) (pa_cons (pv 0) (pa_cons (pv 1) pa_nil))) (pa_cons (pe_callF (ok__law_far c) (hr.mono (by decide)) rfl (g__law_far c) (pa_cons (pv 0) (pa_cons (pv 1) pa_nil))) pa_nil))))))))
    (pss_one (ps_ret (pe_callB (cr_sortedSetw (w := w) rfl rfl) (by rfl) (f_sorted c) (by decide +kernel) (pa_cons (pe_callTy (cr_setIw (w := w) rfl rfl) (by rfl) (f_set c) (by decide +kernel) (pa_cons (pv 2) pa_nil)) pa_nil)))))), ?_⟩
  refine ⟨_, rfl, _, _, rfl, rfl, _, rfl, _, _, rfl, rfl, ⟨by decide, by decide⟩, _, rfl, _, _, rfl, rfl, _, _, rfl, rfl, ⟨by decide, by decide⟩, ?_⟩
  refine ⟨_, rfl, _, rfl, g, wd, k, rfl, hg, by omega, w1, fun f1 H1 a0 a1 s1 g1 => ?_⟩
  refine ⟨_, rfl, _, rfl, g, wd, _, rfl, g1, by omega, w1, fun f2 H2 b0 b1 s2 g2 => ?_⟩
  refine ⟨by show 6 ≤ sizeLine; decide, fun l nl => ?_⟩
  have os0 : ∀ o ∈ [0, wd - 1, wd / 2, (wd - 1) / 2, f1, f2], 0 ≤ o ∧ o < wd := fun o ho => by
    simp only [List.mem_cons, List.not_mem_nil, or_false] at ho
    rcases ho with rfl | rfl | rfl | rfl | rfl | rfl <;> omega
  have sl := same_upd nl (o := .lst ([0, wd - 1, wd / 2, (wd - 1) / 2, f1, f2].map V.int))
  refine ⟨_, rfl, ?_⟩
  refine ⟨l, [0, wd - 1, wd / 2, (wd - 1) / 2, f1, f2], rfl, .of upd_same, (show 6 < 1000 by decide), fun p m np hm => ⟨p, _, m, rfl, upd_same, Nat.lt_of_le_of_lt hm (show 6 < 64 by decide), fun ns q hp hmem hlen nq => ?_⟩⟩
  have sp := same_upd np (o := SetO w p (fun k => [0, wd - 1, wd / 2, (wd - 1) / 2, f1, f2].any (· == k)) m)
  have sq := same_upd nq (o := .lst (ns.map V.int))
  have gq := ((g2.mono sl).mono sp)
  refine hQ q ns _ (s1.trans (s2.trans (Sb.of (sl.trans (sp.trans sq))))) ((gq.mono sq).le (by omega)) upd_same (gq.ne nq) (by rw [hlen]; exact hm) fun o ho => ?_
  obtain ⟨z, hz, e⟩ := List.any_eq_true.mp ((hmem o).mp ho)
  rw [← (beq_iff_eq.mp e : z = o)]
  exact os0 z hz
end
end TT

-- W38
set_option Elab.async false
set_option linter.all false
set_option maxRecDepth 100000
set_option maxHeartbeats 4000000
namespace TT
open PySem PySem.Spec PyProof.Rows L2 SX TL
theorem blocks_app (w o : Int) (a b : List Lad.Row) : Lad.blockPairs w o (a ++ b) = Lad.blockPairs w o a ++ Lad.blockPairs w o b := by
  unfold Lad.blockPairs
  rw [List.flatMap_append]
theorem blocks_one (w o : Int) (r : Lad.Row) : Lad.blockPairs w o [r] = (Lad.rowPairs r).flatMap (Lad.blockPair w o r.b) := by
  unfold Lad.blockPairs
  rw [List.flatMap_cons, List.flatMap_nil, List.append_nil]
theorem pairs_one (r : Lad.Row) : Lad.pairsOf [r] = Lad.rowPairs r := by
  unfold Lad.pairsOf
  rw [List.flatMap_cons, List.flatMap_nil, List.append_nil]
theorem flat_le (w o : Int) (b : Bool) : ∀ l : List Lad.Pr, (l.flatMap (Lad.blockPair w o b)).length = 2 * l.length
  | [] => rfl
  | z :: l => by
    rw [List.flatMap_cons, List.length_append, List.length_cons, flat_le w o b l]
    show 2 + 2 * l.length = _
    omega
theorem ne_bl (t b : Bool) : (!decide (V.bl t = V.bl b)) = (t != b) := by cases t <;> cases b <;> decide
section
variable {P : Program} {w : World} {K : Fg} {mg : Str → Option Value} {base : Heap}
abbrev n__law_block_found : List Str := ["_law_lore_here", "_law_wide", "_law_offset", "_law_row", "_law_pairs_here", "_law_selves", "_law_one", "_law_other", "_law_sign", "_law_amount_here", "_law_is_turned", "_law_spots", "_law_place", "_law_note"]
abbrev pr__law_block_found : List Str := ["_law_lore_here", "_law_wide", "_law_offset"]
theorem sc__law_block_found : FnScope n__law_block_found pr__law_block_found (defScope s__law_block_found) := ⟨rfl, rfl, rfl, by decide +kernel, rfl, by decide +kernel, by decide +kernel⟩

def spBlockF : Sp := fun vs H Q _ => ∃ (D : Addr) (n : Int) (rs : List Lad.Row) (ks : Lad.Known) (B : Nat) (wd o : Int), vs = [V.ref D, V.int wd, V.int o] ∧ LoreAt H D n rs ks ∧ Lad.LoreOk n rs ks B ∧ rs.length ≤ 4 ∧ ks.length ≤ 2 ∧ 1 ≤ wd ∧ 0 ≤ o ∧ o < wd ∧
  ∀ E F Hf, Same H Hf → FndAt Hf E F → Lad.SOk (Lad.blockPairs wd o (Lad.allRows rs ks)) [] (4 * 28 * (2 * B) + 2 * B) F → (∀ p, Lad.Met (Lad.blockPairs wd o (Lad.allRows rs ks)) [] p → (F.lookup p).isSome = true) → Q (V.ref E) Hf
theorem ok__law_block_found (c : Env K mg) : Pm P w K mg base 3 (d__law_block_found.at_ K) spBlockF := by
  obtain ⟨fd, F⟩ := fd__law_block_found c
  refine .mk0 (F.ok sc__law_block_found (ps := pr__law_block_found) (by intro vs H Q E h; obtain ⟨_, _, _, _, _, _, _, rfl, _⟩ := h; rfl) fun cdv A0 outer s0 H vs Q E hr h => ?_) (FunD.bindsN F fun _ _ _ _ _ _ us hl => match us, hl with | [_, _, _], _ => rfl) F.kp
  obtain ⟨D, n, rs, ks, B, wd, o, rfl, hL, lo, h1, h2, w1, o0, o1, hQ⟩ := h
  obtain ⟨T, N, us, ws, hD, hT, pT, hN, pN⟩ := id hL
  obtain ⟨allOk, allB⟩ := lo.all
  have n14 := lo.n14
  have lw := pair_len pN
  have lu := pair_len pT
  have lall : (Lad.allRows rs ks).length = rs.length + ks.length := by
    unfold Lad.allRows
    rw [List.length_append, List.length_map]
  have l14 := fun r hr => Lad.RowOk.l14 (allOk r hr) n14
  refine ⟨_, (PSs.nox (pss_cons (ps_par (i := 4) (j := 5) (by rfl) sc__law_block_found.nd rfl rfl (by decide) rfl rfl (pa_cons (pe_lst pa_nil) (pa_cons (pe_lc (own := [("_law_place", 12), ("_law_note", 13)]) (g := (gTup _ 2 (gCons (gName 12) (gCons (gName 13) gNil)))) (tt := tYes) (by rfl) sc__law_block_found.nd (pi_list (pe_dget (hu_of hr) (pv 0) pe_str (fun _ _ => rfl))) (blkOk_by (own := [("_law_place", 12), ("_law_note", 13)]) (N := n__law_block_found) (sc := defScope s__law_block_found) (by decide +kernel)) (fun _ _ _ _ _ => (pg_tup rfl (pgs_cons (pg_name (i := 12) sc__law_block_found.nd rfl (Or.inl rfl)) (pgs_cons (pg_name (i := 13) sc__law_block_found.nd rfl (Or.inl rfl)) pgs_nil)))) (fun _ _ _ _ _ => pts_nil) (fun _ _ _ _ _ => (pe_tup (pa_cons (pv 12) (pa_cons (pv 12) (pa_cons pe_int (pa_cons pe_bl (pa_cons (pe_op op_mul pe_int (pv 13)) (pa_cons pe_bl pa_nil))))))))) pa_nil)) (by rfl))
    (pss_cons (ps_for PassesOwn.never rfl (pi_list (pe_op op_cat (pe_dget (hu_of hr) (pv 0) pe_str (fun _ _ => rfl)) (pv 5))) (pg_name (i := 3) sc__law_block_found.nd rfl (Or.inl rfl))
    (pss_one (ps_for PassesOwn.never rfl (pi_list (pe_callF (ok__law_pairs c) (hr.mono (by decide)) rfl (g__law_pairs c) (pa_cons (pe_lst (pa_cons (pv 3) pa_nil)) pa_nil))) (pg_tup rfl (pgs_cons (pg_name (i := 6) sc__law_block_found.nd rfl (Or.inl rfl)) (pgs_cons (pg_name (i := 7) sc__law_block_found.nd rfl (Or.inl rfl)) (pgs_cons (pg_name (i := 8) sc__law_block_found.nd rfl (Or.inl rfl)) (pgs_cons (pg_name (i := 9) sc__law_block_found.nd rfl (Or.inl rfl)) pgs_nil)))))
    (pss_one (ps_for PassesOwn.never rfl (pi_tup (pe_tup (pa_cons pe_bl (pa_cons pe_bl pa_nil)))) (pg_name (i := 10) sc__law_block_found.nd rfl (Or.inl rfl))
    (pss_cons (ps_set (i := 11) sc__law_block_found.nd rfl (Or.inl rfl) (pe_tup (pa_cons (pe_callF (ok__law_spot c) (hr.mono (by decide)) rfl (g__law_spot c) (pa_cons (pv 6) (pa_cons (pv 1) (pa_cons (pv 2) (pa_cons (pv 10) pa_nil))))) (pa_cons (pe_callF (ok__law_spot c) (hr.mono (by decide)) rfl (g__law_spot c) (pa_cons (pv 7) (pa_cons (pv 1) (pa_cons (pv 2) (pa_cons (pe_cmpR op_ne (pv 10) (pe_ix ix_tup (pv 3) pe_int (fun _ _ => rfl)) (nomark _)) pa_nil))))) pa_nil))))
    (pss_one (ps_expr (pe_bm PySem.F.plainAttrs_list PySem.F.slot_list_append PySem.F.type_list_append mt_append (pv 4) (pa_cons (pe_op op_catT (pv 11) (pe_tup (pa_cons (pv 8) (pa_cons (pv 9) pa_nil)))) pa_nil))))))))))
    (pss_one (ps_ret (pe_callF (ok__law_settled c) (hr.mono (by decide)) rfl (g__law_settled c) (pa_cons (pv 4) (pa_cons (pe_lst pa_nil) pa_nil)))))))), ?_⟩
  refine ⟨Nat.zero_le _, fun A nA => ?_⟩
  have sA := same_upd nA (o := .lst [])
  have hA0 := @upd_same H A (.lst [])
  revert sA hA0
  generalize upd H A (.lst []) = H1
  intro sA hA0
  refine ⟨_, rfl, D, _, rfl, dg_notes (sA _ _ hD), N, rfl, ⟨_, .of (sA _ _ hN)⟩, fun Lk nLk => ?_⟩
  refine lc_it (walk_list (xs := ws)) (fun i H' => ∃ acc, H' Lk = some (.lst acc) ∧ Paired (RowAt H') acc ((ks.map Lad.pinRow).take i) ∧ Same H1 H') ⟨[], upd_same, .nil, same_upd nLk⟩ (fun i H' _ ⟨_, _, _, s⟩ => SqL.of (K := K) (s _ _ (sA _ _ hN))) (fun i x H3 H2 hi q hy => ?_) (fun H2 q => ?_)
  · obtain ⟨acc, hLk, pa, s1⟩ := q
    obtain ⟨rfl, hy⟩ := hy
    obtain ⟨k, hk1, hkn⟩ := pair_get pN hy
    obtain ⟨pk, rfl, hpk⟩ := hkn.tu (Tu.of (sA.trans s1))
    have hla := pair_len pa
    rw [List.length_take, List.length_map] at hla
    refine ⟨pk, _, rfl, .of hpk, rfl, _, _, rfl, _, _, rfl, rfl, rfl, _, rfl, _, rfl, _, rfl, _, _, rfl, rfl, .inl ⟨by decide, by decide⟩, by show 6 ≤ sizeLine; decide, fun p np => ?_⟩
    have sp := same_upd (o := .tup [V.int k.1, V.int k.1, V.int 1, V.bl true, V.int (2 * k.2), V.bl false]) np
    have xs := Xs.lst (ys := acc ++ [V.ref p]) (sp _ _ hLk)
    have tu := (Tu.of sp).trans (Tu.xs xs)
    refine ⟨acc, sp _ _ hLk, lt_line (by omega), acc ++ [V.ref p], upd_same, ?_, same_set (s1.trans sp) nLk⟩
    rw [List.take_add_one, List.getElem?_map, hk1]
    refine pair_app (pair_mono pa fun _ _ y => y.tu tu) (.cons ⟨p, rfl, ?_⟩ .nil)
    exact Tu.xs xs _ _ upd_same
  · obtain ⟨acc, hLk, pa, s1⟩ := q
    rw [List.take_of_length_le (by rw [List.length_map]; omega)] at pa
    have hla := pair_len pa
    rw [List.length_map] at hla
    have s12 := sA.trans s1
    refine ⟨_, _, rfl, ?_⟩
    refine ⟨_, rfl, D, _, rfl, dg_ties (s12 _ _ hD), _, rfl, T, Lk, us, acc, rfl, rfl, s12 _ _ hT, hLk, line_big (by omega), fun Z nZ => ?_⟩
    have sZ := same_upd nZ (o := .lst (us ++ acc))
    have s3 := s12.trans sZ
    have hZ := @upd_same H2 Z (.lst (us ++ acc))
    have hA3 : (upd H2 Z (.lst (us ++ acc))) A = some (.lst []) := sZ _ _ (s1 _ _ hA0)
    have pZ : Paired (RowAt (upd H2 Z (.lst (us ++ acc)))) (us ++ acc) (Lad.allRows rs ks) := pair_app (pair_mono pT fun _ _ y => y.tu (Tu.of s3)) (pair_mono pa fun _ _ y => y.tu (Tu.of sZ))
    have nZA : Z ≠ A := fun e => by
      rw [e, s1 _ _ hA0] at nZ
      cases nZ
    have lZ : (us ++ acc).length = rs.length + ks.length := by rw [List.length_append]; omega
    revert s3 hZ hA3 pZ
    generalize upd H2 Z (.lst (us ++ acc)) = H3
    intro s3 hZ hA3 pZ
    have sH : ∀ {Hx : Hp}, Sb A H3 Hx → Same H Hx := fun {Hx} sb q u e => sb _ _ (s3 _ _ e) (ne_of_none e nA)
    refine ⟨Z, rfl, ⟨_, .of hZ⟩, ?_⟩
    refine for_it (walk_list (xs := us ++ acc)) (fun i σ H' => ∃ (accA : List V) (z3 z6 z7 z8 z9 z10 z11 z12 z13 : Option V), σ = [some (.ref D), some (.int wd), some (.int o), z3, some (.ref A), some (.ref Lk), z6, z7, z8, z9, z10, z11, z12, z13] ∧ H' A = some (.lst accA) ∧ Paired (PrAt H') accA (Lad.blockPairs wd o ((Lad.allRows rs ks).take i)) ∧ Sb A H3 H') ⟨[], _, _, _, _, _, _, _, _, _, rfl, hA3, .nil, fun _ _ e _ => e⟩ (fun i σ H' _ e => by
      obtain ⟨_, _, _, _, _, _, _, _, _, _, _, _, _, sb⟩ := e
      exact SqL.of (K := K) (sb _ _ hZ nZA)) (fun i x σ H5 H4 hi q hy => ?_) (fun σ H4 q => ?_)
    · obtain ⟨accA, z3, z6, z7, z8, z9, z10, z11, z12, z13, rfl, hA4, pA, sb⟩ := q
      obtain ⟨rfl, hy⟩ := hy
      have tu3 : Tu H3 H4 := Tu.sb sb fun us z => by rw [hA3] at z; cases z
      obtain ⟨r, hr1, hrow0⟩ := pair_get pZ hy
      have hrow := hrow0.tu tu3
      obtain ⟨pr, rfl, hpr⟩ := id hrow
      have hrm := List.mem_of_getElem? hr1
      have ro := allOk r hrm
      have r14 := l14 r hrm
      refine ⟨_, rfl, by show 1 ≤ sizeLine; decide, fun l nl => ?_⟩
      have sl := same_upd nl (o := .lst [V.ref pr])
      refine ⟨l, [V.ref pr], [r], rfl, upd_same, .cons (hrow.tu (Tu.of sl)) .nil, (show 1 ≤ 20 by decide), fun q hq => by rw [List.mem_singleton.mp hq]; exact ⟨ro.l1, by omega⟩, fun E2 acc2 H5 s5 nE hE pE => ?_⟩
      rw [pairs_one] at pE
      have nEA : E2 ≠ A := fun e => by
        rw [e, sl _ _ hA4] at nE
        cases nE
      have s45 := sl.trans s5
      have hA5 := s45 _ _ hA4
      have pA5 := pair_mono pA fun _ _ y => y.tu (Tu.of s45)
      have hpr5 := s45 _ _ hpr
      have lE := pair_len pE
      have etk : (Lad.allRows rs ks).take (i + 1) = (Lad.allRows rs ks).take i ++ [r] := by rw [List.take_add_one, hr1]; rfl
      have bl1 : (Lad.blockPairs wd o ((Lad.allRows rs ks).take i)).length ≤ 1000 := by
        rw [Lad.block_len]
        have h3 := Lad.pairs_len (rs := (Lad.allRows rs ks).take i) (m := 14) fun q hq => l14 q (List.mem_of_mem_take hq)
        have h4 : ((Lad.allRows rs ks).take i).length ≤ 6 := by rw [List.length_take]; omega
        omega
      have lrp := Lad.rowPairs_len r
      refine ⟨E2, rfl, ⟨_, .of hE⟩, ?_⟩
      refine for_it (walk_list (xs := acc2)) (fun j σ H' => ∃ (accA : List V) (z6 z7 z8 z9 z10 z11 z12 z13 : Option V), σ = [some (.ref D), some (.int wd), some (.int o), some (.ref pr), some (.ref A), some (.ref Lk), z6, z7, z8, z9, z10, z11, z12, z13] ∧ H' A = some (.lst accA) ∧ Paired (PrAt H') accA (Lad.blockPairs wd o ((Lad.allRows rs ks).take i) ++ ((Lad.rowPairs r).take j).flatMap (Lad.blockPair wd o r.b)) ∧ Sb A H5 H') ⟨accA, _, _, _, _, _, _, _, _, rfl, hA5, by rw [List.take_zero, List.flatMap_nil, List.append_nil]; exact pA5, fun _ _ e _ => e⟩ (fun j σ H' _ e => by
        obtain ⟨_, _, _, _, _, _, _, _, _, _, _, _, sb2⟩ := e
        exact SqL.of (K := K) (sb2 _ _ hE nEA)) (fun j x σ H7 H6 hj q hy => ?_) (fun σ H6 q => ?_)
      · obtain ⟨accB, z6, z7, z8, z9, z10, z11, z12, z13, rfl, hA6, pB, sb2⟩ := q
        obtain ⟨rfl, hy⟩ := hy
        have tu5 : Tu H5 H6 := Tu.sb sb2 fun us z => by rw [hA5] at z; cases z
        obtain ⟨z, hz1, hpz0⟩ := pair_get pE hy
        obtain ⟨pz, rfl, hpz⟩ := hpz0.tu tu5
        have hpr6 := tu5 _ _ hpr5
        obtain ⟨kz, kz0, kz1, ez⟩ := (Lad.mem_rowPairs ro.l1).mp (List.mem_of_getElem? hz1)
        have ezp : 0 ≤ z.p ∧ z.p < 1000 := by
          rw [ez]
          have h5 := ro.f0
          have h6 := ro.fe
          show 0 ≤ r.f + kz ∧ r.f + kz < 1000
          omega
        have ezq : 0 ≤ z.q ∧ z.q < 1000 := by
          rw [ez]
          have h5 := ro.s0
          have h6 := ro.se
          show 0 ≤ r.par kz ∧ r.par kz < 1000
          unfold Lad.Row.par
          split <;> omega
        have etz : (Lad.rowPairs r).take (j + 1) = (Lad.rowPairs r).take j ++ [z] := by rw [List.take_add_one, hz1]; rfl
        have bl2 : (((Lad.rowPairs r).take j).flatMap (Lad.blockPair wd o r.b)).length ≤ 28 := by
          rw [flat_le, List.length_take, lrp]
          omega
        refine ⟨pz, _, rfl, .of hpz, rfl, _, _, rfl, _, _, rfl, _, _, rfl, _, _, rfl, rfl, ?_⟩
        refine ⟨by show 2 ≤ sizeLine; decide, fun tp ntp => ⟨tp, rfl, ⟨_, .of upd_same⟩, ?_⟩⟩
        have st := same_upd ntp (o := .tup [V.bl false, V.bl true])
        have htp := @upd_same H6 tp (.tup [V.bl false, V.bl true])
        have hA7 := st _ _ hA6
        have hpr7 := st _ _ hpr6
        have pB7 := pair_mono pB fun _ _ y => y.tu (Tu.of st)
        have sb7 : Sb A H5 (upd H6 tp (.tup [V.bl false, V.bl true])) := sb2.trans (Sb.of st)
        revert htp hA7 hpr7 pB7 sb7
        generalize upd H6 tp (.tup [V.bl false, V.bl true]) = H7
        intro htp hA7 hpr7 pB7 sb7
        refine for_it (walk_tup (xs := [V.bl false, V.bl true])) (fun m σ H' => ∃ (accA : List V) (z10 z11 : Option V), σ = [some (.ref D), some (.int wd), some (.int o), some (.ref pr), some (.ref A), some (.ref Lk), some (.int z.p), some (.int z.q), some (.int z.s), some (.int z.a), z10, z11, z12, z13] ∧ H' A = some (.lst accA) ∧ Paired (PrAt H') accA ((Lad.blockPairs wd o ((Lad.allRows rs ks).take i) ++ ((Lad.rowPairs r).take j).flatMap (Lad.blockPair wd o r.b)) ++ (Lad.blockPair wd o r.b z).take m) ∧ Sb A H7 H') ⟨accB, _, _, rfl, hA7, by rw [List.take_zero, List.append_nil]; exact pB7, fun _ _ e _ => e⟩ (fun m σ H' _ e => by
          obtain ⟨_, _, _, _, _, _, sb3⟩ := e
          exact SqT.of (K := K) (sb3 _ _ htp (ne_of htp hA7 (by intro q; cases q)))) (fun m x σ H9 H8 hm q hy => ?_) (fun σ H8 q => ?_)
        · obtain ⟨accC, z10, z11, rfl, hA8, pC, sb3⟩ := q
          obtain ⟨rfl, hy⟩ := hy
          have tu7 : Tu H7 H8 := Tu.sb sb3 fun us z => by rw [hA7] at z; cases z
          have hpr8 := tu7 _ _ hpr7
          obtain ⟨t, rfl, ht⟩ : ∃ t, x = V.bl t ∧ (Lad.blockPair wd o r.b z)[m]? = some ⟨Lad.spot wd o z.p t, Lad.spot wd o z.q (t != r.b), z.s, z.a⟩ := by
            have hm2 : m < 2 := hm
            have : m = 0 ∨ m = 1 := by omega
            rcases this with rfl | rfl
            · exact ⟨false, (Option.some.inj hy).symm, rfl⟩
            · exact ⟨true, (Option.some.inj hy).symm, rfl⟩
          have hlC := pair_len pC
          have e2 : (Lad.blockPair wd o r.b z).length = 2 := rfl
          rw [List.length_append, List.length_append, List.length_take, e2] at hlC
          refine ⟨_, rfl, _, rfl, _, rfl, _, rfl, z.p, wd, o, t, rfl, ezp.1, ezp.2, ?_⟩
          refine ⟨_, rfl, _, rfl, _, rfl, _, rfl, _, rfl, pr, _, _, _, rfl, rfl, .of hpr8, rfl, rfl, z.q, wd, o, _, rfl, ezq.1, ezq.2, ?_⟩
          rw [ne_bl]
          refine ⟨by show 2 ≤ sizeLine; decide, fun q nq => ?_⟩
          have sq := same_upd nq (o := .tup [V.int (Lad.spot wd o z.p t), V.int (Lad.spot wd o z.q (t != r.b))])
          have hq := @upd_same H8 q (.tup [V.int (Lad.spot wd o z.p t), V.int (Lad.spot wd o z.q (t != r.b))])
          refine ⟨_, rfl, .inl ⟨rfl, _, .of (sq _ _ hA8)⟩, _, rfl, _, rfl, _, rfl, by show 2 ≤ sizeLine; decide, fun y ny => ?_⟩
          have sy := same_upd ny (o := .tup [V.int z.s, V.int z.a])
          refine ⟨q, y, _, _, rfl, rfl, .of (sy _ _ hq), .of upd_same, List.cons_ne_nil _ _, by show 2 + 2 ≤ sizeLine; decide, fun h => by (cases h), fun _ u nu => ?_⟩
          have su := same_upd nu (o := .tup ([V.int (Lad.spot wd o z.p t), V.int (Lad.spot wd o z.q (t != r.b))] ++ [V.int z.s, V.int z.a]))
          have sA := sq.trans (sy.trans su)
          have hAu := sA _ _ hA8
          refine ⟨A, accC, _, rfl, rfl, hAu, lt_line (by omega), accC ++ [V.ref u], _, _, rfl, upd_same, ?_, fun q u e n => by rw [upd_ne n]; exact sA _ _ (sb3 _ _ e n)⟩
          have xs := Xs.lst (ys := accC ++ [V.ref u]) hAu
          have tu := (Tu.of sA).trans (Tu.xs xs)
          rw [List.take_add_one, ht, ← List.append_assoc]
          refine pair_app (pair_mono pC fun _ _ y => y.tu tu) (.cons ⟨u, rfl, ?_⟩ .nil)
          exact Tu.xs xs _ _ upd_same
        · obtain ⟨accC, z10, z11, rfl, hA8, pC, sb3⟩ := q
          refine ⟨accC, _, _, _, _, _, _, _, _, rfl, hA8, ?_, sb7.trans sb3⟩
          have e2 : (Lad.blockPair wd o r.b z).take [V.bl false, V.bl true].length = Lad.blockPair wd o r.b z := rfl
          rw [e2, List.append_assoc] at pC
          rw [etz, List.flatMap_append, List.flatMap_cons, List.flatMap_nil, List.append_nil]
          exact pC
      · obtain ⟨accB, z6, z7, z8, z9, z10, z11, z12, z13, rfl, hA6, pB, sb2⟩ := q
        have e3 : (Lad.rowPairs r).take acc2.length = Lad.rowPairs r := List.take_of_length_le (by omega)
        rw [e3] at pB
        refine ⟨accB, _, _, _, _, _, _, _, _, _, rfl, hA6, ?_, (sb.trans (Sb.of s45)).trans sb2⟩
        rw [etk, blocks_app, blocks_one]
        exact pB
    · obtain ⟨accA, z3, z6, z7, z8, z9, z10, z11, z12, z13, rfl, hA4, pA, sb⟩ := q
      rw [List.take_of_length_le (by omega)] at pA
      refine ⟨_, rfl, Nat.zero_le _, fun e ne => ?_⟩
      have se := same_upd ne (o := .lst [])
      have h3 := Lad.pairs_len (rs := Lad.allRows rs ks) (m := 14) l14
      have h4 := Lad.block_len wd o (Lad.allRows rs ks)
      refine ⟨A, e, accA, [], Lad.blockPairs wd o (Lad.allRows rs ks), [], 2 * B, 28, rfl, se _ _ hA4, pair_mono pA fun _ _ y => y.tu (Tu.of se), upd_same, .nil, by omega, Lad.ones_block _ _ _, Nat.zero_le _, Lad.few_block w1 o0 o1 allOk (m := 14) n14, by decide, Lad.amount_block allB, (fun _ h => nomatch h), fun Hf s no => ?_, fun E F Hf s hF S hall => hQ E F _ ((sH sb).trans (se.trans s)) hF S hall⟩
      obtain ⟨x, hx⟩ := lo.block w1 o0 o1
      exact absurd (fun _ h => nomatch h) (no x hx)
end
end TT

-- W39
set_option Elab.async false
set_option linter.all false
set_option maxRecDepth 100000
set_option maxHeartbeats 4000000
namespace TT
open PySem PySem.Spec PyProof.Rows L2 SX TL
/-! answers as data, and their texts -/
def ansD : Lad.Ans → PyData
  | .told n => .tuple [.str "told", .int n]
  | .hang d q c => .tuple [.str (if d then "down" else "up"), .int q, .int c]
def AnsS : Lad.Ans → Prop
  | .told n => n.natAbs < 10 ^ 50
  | .hang _ q c => q.natAbs < 10 ^ 50 ∧ c.natAbs < 10 ^ 50
theorem ans_dp {K : Fg} {H : Hp} {v : V} {a : Lad.Ans} (h : AnsAt H v a) : ∃ p, v = V.ref p ∧ Dp K H (.ref p) (ansD a) := by
  cases a with
  | told n =>
    obtain ⟨p, e, h⟩ := h
    exact ⟨p, e, .tup (.of h) (.cons (.str _) (.cons (.int n) .nil))⟩
  | hang d q c =>
    obtain ⟨p, e, h⟩ := h
    exact ⟨p, e, .tup (.of h) (.cons (.str _) (.cons (.int q) (.cons (.int c) .nil)))⟩
theorem int_small {n : Int} (h : n.natAbs < 10 ^ 50) : n.natAbs.log2 < 167 ∧ (PyData.shown (.int n)).length ≤ 60 := by
  refine ⟨?_, ?_⟩
  · by_cases h0 : n.natAbs = 0
    · rw [h0]; decide
    · exact (Nat.log2_lt h0).mpr (Nat.lt_trans h (by decide +kernel))
  · have e : PyData.shown (.int n) = S (intL n) := by
      show Str.ofString (toString n) = _
      exact str_S n
    rw [e, S_len]
    have hl := numL_len (k := 50) (by decide) h
    unfold intL
    split
    · rw [List.length_cons]; omega
    · omega
structure Small (d : PyData) : Prop where
  s : d.showable = true
  n : d.hasDict = false
  p : d.depth ≤ 1
  l : d.leavesShort 60 = true
  w : d.weight ≤ 400
theorem word_small (d : Bool) : (PyData.str (if d then "down" else "up")).leavesShort 60 = true ∧ (PyData.str (if d then "down" else "up")).weight ≤ 4 := by
  cases d <;> exact ⟨by decide +kernel, by decide +kernel⟩
theorem told_small : (PyData.str "told").leavesShort 60 = true ∧ (PyData.str "told").weight ≤ 4 := ⟨by decide +kernel, by decide +kernel⟩
theorem int_w {n : Int} (h : n.natAbs < 10 ^ 50) : (PyData.int n).weight ≤ 167 := by
  have := (int_small h).1
  simp only [PyData.weight]
  split <;> omega
theorem int_s {n : Int} (h : n.natAbs < 10 ^ 50) : (PyData.int n).showable = true := by
  have := (int_small h).1
  simp only [PyData.showable]
  exact decide_eq_true (by omega)
theorem int_l {n : Int} (h : n.natAbs < 10 ^ 50) : (PyData.int n).leavesShort 60 = true := by
  simp only [PyData.leavesShort]
  exact decide_eq_true (int_small h).2
theorem ans_small {a : Lad.Ans} (h : AnsS a) : Small (ansD a) := by
  cases a with
  | told n =>
    have h : n.natAbs < 10 ^ 50 := h
    have w1 := int_w h
    have w2 := told_small.2
    refine ⟨?_, ?_, ?_, ?_, ?_⟩
    · simp only [ansD, PyData.showable, PyData.showableAll, Bool.true_and, Bool.and_true]
      exact int_s h
    · simp only [ansD, PyData.hasDict, PyData.hasDictAll, Bool.or_false]
    · simp only [ansD, PyData.depth, PyData.depthAll]
      decide
    · simp only [ansD, PyData.leavesShort, PyData.leavesShortAll, Bool.and_true]
      rw [Bool.and_eq_true]
      exact ⟨told_small.1, int_l h⟩
    · show (PyData.str "told").weight + 1 + ((PyData.int n).weight + 1 + 0) ≤ 400
      omega
  | hang d q c =>
    obtain ⟨hq, hc⟩ := h
    have w1 := int_w hq
    have w2 := int_w hc
    have w3 := (word_small d).2
    refine ⟨?_, ?_, ?_, ?_, ?_⟩
    · simp only [ansD, PyData.showable, PyData.showableAll, Bool.true_and, Bool.and_true]
      rw [Bool.and_eq_true]
      exact ⟨int_s hq, int_s hc⟩
    · simp only [ansD, PyData.hasDict, PyData.hasDictAll, Bool.or_false]
    · simp only [ansD, PyData.depth, PyData.depthAll]
      decide
    · simp only [ansD, PyData.leavesShort, PyData.leavesShortAll, Bool.and_true]
      rw [Bool.and_eq_true, Bool.and_eq_true]
      exact ⟨(word_small d).1, int_l hq, int_l hc⟩
    · show (PyData.str (if d then "down" else "up")).weight + 1 + ((PyData.int q).weight + 1 + ((PyData.int c).weight + 1 + 0)) ≤ 400
      omega
theorem small_fits {d : PyData} (h : Small d) : d.shown.length ≤ sizeLine := by
  have h1 := PyData.shown_le 60 (by decide) d h.l
  have h2 : (60 + 2) * d.weight ≤ 62 * 400 := Nat.mul_le_mul_left _ h.w
  rw [sizeLine_eq]
  omega
/-- a tuple of them -/
def tupD (as : List Lad.Ans) : PyData := .tuple (as.map ansD)
theorem tup_dp {K : Fg} {H : Hp} {p : Addr} {us : List V} {as : List Lad.Ans} (hp : H p = some (.tup us)) (pa : Paired (AnsAt H) us as) : Dp K H (.ref p) (tupD as) := by
  refine .tup (.of hp) ?_
  clear hp
  induction pa with
  | nil => exact .nil
  | @cons v a us as h t ih =>
    obtain ⟨q, rfl, hd⟩ := ans_dp (K := K) h
    exact .cons hd ih
theorem tup_small {as : List Lad.Ans} (h : ∀ a ∈ as, AnsS a) : (tupD as).showable = true ∧ (tupD as).hasDict = false ∧ (tupD as).depth ≤ 50 ∧ (as.length ≤ 99 → (tupD as).shown.length ≤ sizeLine) := by
  have key : PyData.showableAll (as.map ansD) = true ∧ PyData.hasDictAll (as.map ansD) = false ∧ PyData.depthAll (as.map ansD) ≤ 1 ∧ PyData.leavesShortAll 60 (as.map ansD) = true ∧ PyData.weightAll (as.map ansD) ≤ 401 * as.length := by
    induction as with
    | nil => exact ⟨by simp only [List.map_nil, PyData.showableAll], by simp only [List.map_nil, PyData.hasDictAll], by simp only [List.map_nil, PyData.depthAll]; omega, by simp only [List.map_nil, PyData.leavesShortAll], by simp only [List.map_nil, PyData.weightAll]; omega⟩
    | cons a as ih =>
      obtain ⟨i1, i2, i3, i4, i5⟩ := ih fun b hb => h b (List.mem_cons_of_mem _ hb)
      have s := ans_small (h a List.mem_cons_self)
      refine ⟨?_, ?_, ?_, ?_, ?_⟩
      · simp only [List.map_cons, PyData.showableAll, s.s, i1, Bool.and_self]
      · simp only [List.map_cons, PyData.hasDictAll, s.n, i2, Bool.or_self]
      · simp only [List.map_cons, PyData.depthAll]
        exact Nat.max_le.mpr ⟨s.p, i3⟩
      · simp only [List.map_cons, PyData.leavesShortAll, s.l, i4, Bool.and_self]
      · simp only [List.map_cons, PyData.weightAll, List.length_cons]
        have := s.w
        omega
  obtain ⟨i1, i2, i3, i4, i5⟩ := key
  refine ⟨?_, ?_, ?_, fun hl => ?_⟩
  · simp only [tupD, PyData.showable, i1]
  · simp only [tupD, PyData.hasDict, i2]
  · simp only [tupD, PyData.depth]
    omega
  · have h1 := PyData.shown_le 60 (by decide) (tupD as) (by simp only [tupD, PyData.leavesShort, i4])
    have h2 : (tupD as).weight = PyData.weightAll (as.map ansD) := by simp only [tupD, PyData.weight]
    have h3 : (60 + 2) * (tupD as).weight ≤ 62 * (401 * 99) := Nat.mul_le_mul_left _ (by rw [h2]; omega)
    rw [sizeLine_eq]
    omega
/-! what a class of places is told -/
theorem cls_small {w o n : Int} (hw : 1 ≤ w) (o0 : 0 ≤ o) (o1 : o < w) {rs : List Lad.Row} (hr : ∀ r ∈ rs, Lad.RowOk n r) (hnw : n * w ≤ 10 ^ 30) {M : Nat} (hM : M < 10 ^ 50) {F : Lad.Found} (S : Lad.SOk (Lad.blockPairs w o rs) [] M F) {p : Int} (p0 : 0 ≤ p) (p1 : p < n * w) :
    AnsS ((F.lookup p).getD (.hang false p 0)) := by
  cases h : F.lookup p with
  | none => exact ⟨by omega, by decide⟩
  | some a =>
    have b := S.bd p a h
    cases a with
    | told m => exact Nat.lt_of_le_of_lt b hM
    | hang d r c =>
      obtain ⟨_, s2, _⟩ := S.hang p d r c h
      have m := Lad.block_met hw o0 o1 hr (S.met r (by rw [s2]; rfl))
      have b : c.natAbs ≤ M := b
      exact ⟨by omega, by omega⟩
theorem lore_book {n : Int} {rs : List Lad.Row} {ks : Lad.Known} {B : Nat} (lo : Lad.LoreOk n rs ks B) {wd : Int} (w1 : 1 ≤ wd) (w2 : wd ≤ 10 ^ 28) (h1 : rs.length ≤ 4) (h2 : ks.length ≤ 2) :
    n * wd ≤ 10 ^ 30 ∧ ∃ G, BookOk (n * wd) (Lad.bigTies wd (Lad.allRows rs ks)) (Lad.Fin (n * wd) (Lad.bigTies wd (Lad.allRows rs ks))) (Lad.RI G (n * wd) (Lad.bigTies wd (Lad.allRows rs ks))) := by
  have e1 : n * wd ≤ 14 * wd := Int.mul_le_mul_of_nonneg_right lo.n14 (by omega)
  have hn : n * wd ≤ 10 ^ 30 := by omega
  have n1 := lo.n1
  obtain ⟨G, g1, g2, g3⟩ := Lad.big_grid w1 lo.n1 lo.n14
  refine ⟨hn, G, book_ok (Int.mul_nonneg (by omega) (by omega)) hn g2 g1 ?_ (fun t ht => ?_) (lo.big w1)⟩
  · unfold Lad.bigTies Lad.allRows
    rw [List.length_map, List.length_append, List.length_map]
    omega
  · unfold Lad.bigTies at ht
    obtain ⟨r, hr, rfl⟩ := List.mem_map.mp ht
    exact g3 r (lo.all.1 r hr)
theorem spot_in {w o n p : Int} (w1 : 1 ≤ w) (o0 : 0 ≤ o) (o1 : o < w) (p0 : 0 ≤ p) (p1 : p < n) (t : Bool) : (0 ≤ Lad.spot w o p t ∧ Lad.spot w o p t < n * w) ∧ (Lad.spot w o p t % w = o ∨ Lad.spot w o p t % w = w - 1 - o) := by
  have m0 : 0 ≤ p * w := Int.mul_nonneg p0 (by omega)
  have m1 : (p + 1) * w ≤ n * w := Int.mul_le_mul_of_nonneg_right (by omega) (by omega)
  rw [Int.add_mul] at m1
  unfold Lad.spot
  have e := (Lad.div_row (p := p) w1 (j := if t then w - 1 - o else o) (by split <;> omega) (by split <;> omega)).2
  rw [e]
  refine ⟨⟨by split <;> omega, by split <;> omega⟩, ?_⟩
  cases t
  · exact .inl rfl
  · exact .inr rfl
/-! while a book makes its ladder -/
theorem sb_ins {K : Fg} {H H' : Hp} {b : Addr} {n : Int} {ts : List Lad.Ti} {F : List Lad.Cut → Prop} (hB : BookAt K H b n ts F) (s : Sb b H H') : (∀ q kvs, H q = some (.dK kvs) → H' q = some (.dK kvs)) ∧ (∀ q us, H q = some (.lst us) → H' q = some (.lst us)) ∧ Tu H H' := by
  obtain ⟨dx, Ti, No, tx, L, vs, hb, _⟩ := hB
  exact ⟨fun q kvs e => s _ _ e (ne_of e hb (by intro z; cases z)), fun q us e => s _ _ e (ne_of e hb (by intro z; cases z)), fun q us e => s _ _ e (ne_of e hb (by intro z; cases z))⟩
theorem lore_bk {K : Fg} {H H' : Hp} {b D : Addr} {n m : Int} {ts : List Lad.Ti} {F : List Lad.Cut → Prop} {rs : List Lad.Row} {ks : Lad.Known} (hB : BookAt K H b m ts F) (s : Sb b H H') (h : LoreAt H D n rs ks) : LoreAt H' D n rs ks := by
  obtain ⟨k1, k2, k3⟩ := sb_ins hB s
  obtain ⟨T, N, us, ws, h1, h2, h3, h4, h5⟩ := h
  exact ⟨T, N, us, ws, k1 _ _ h1, k2 _ _ h2, pair_mono h3 fun _ _ y => y.tu k3, k2 _ _ h4, pair_mono h5 fun _ _ y => y.tu k3⟩
theorem fnd_bk {K : Fg} {H H' : Hp} {b D : Addr} {m : Int} {ts : List Lad.Ti} {F : List Lad.Cut → Prop} {Fo : Lad.Found} (hB : BookAt K H b m ts F) (s : Sb b H H') (h : FndAt H D Fo) : FndAt H' D Fo := by
  obtain ⟨k1, k2, k3⟩ := sb_ins hB s
  obtain ⟨kvs, h1, h2, h3⟩ := h
  refine ⟨kvs, k1 _ _ h1, h2, fun p => ?_⟩
  have := h3 p
  cases hv : valV kvs (.inl p) with
  | none => rw [hv] at this; exact this
  | some v =>
    rw [hv] at this
    obtain ⟨a, e1, e2⟩ := this
    exact ⟨a, e1, e2.tu k3⟩
end TT

-- W40
set_option Elab.async false
set_option linter.all false
set_option maxRecDepth 100000
set_option maxHeartbeats 4000000
namespace TT
open PySem PySem.Spec PyProof.Rows L2 SX TL
abbrev TiesOf (wd : Int) (rs : List Lad.Row) (ks : Lad.Known) : List Lad.Ti := Lad.bigTies wd (Lad.allRows rs ks)
abbrev FinOf (n wd : Int) (rs : List Lad.Row) (ks : Lad.Known) : List Lad.Cut → Prop := Lad.Fin (n * wd) (TiesOf wd rs ks)
section
variable {P : Program} {w : World} {K : Fg} {mg : Str → Option Value} {base : Heap}
abbrev n__law_is_offset_right : List Str := ["_law_book", "_law_lore_here", "_law_wide", "_law_offset", "_law_found_here", "_law_place", "_law_is_turned", "_law_spot_here"]
abbrev pr__law_is_offset_right : List Str := ["_law_book", "_law_lore_here", "_law_wide", "_law_offset"]
theorem sc__law_is_offset_right : FnScope n__law_is_offset_right pr__law_is_offset_right (defScope s__law_is_offset_right) := ⟨rfl, rfl, rfl, by decide +kernel, rfl, by decide +kernel, by decide +kernel⟩

def spOffR (K : Fg) : Sp := fun vs H Q _ => ∃ (b D : Addr) (n : Int) (rs : List Lad.Row) (ks : Lad.Known) (wd o : Int), vs = [V.ref b, V.ref D, V.int wd, V.int o] ∧ BookAt K H b (n * wd) (TiesOf wd rs ks) (FinOf n wd rs ks) ∧ LoreAt H D n rs ks ∧ Lad.LoreOk n rs ks (10 ^ 38) ∧ rs.length ≤ 4 ∧ ks.length ≤ 2 ∧ 1 ≤ wd ∧ wd ≤ 10 ^ 28 ∧ 0 ≤ o ∧ o < wd ∧
  ∀ H', Go K b H H' → BookAt K H' b (n * wd) (TiesOf wd rs ks) (FinOf n wd rs ks) → Q (V.bl true) H'
theorem ok__law_is_offset_right (c : Env K mg) : PmG P w K mg base 17 (d__law_is_offset_right.at_ K) (spOffR K) := by
  obtain ⟨fd, F⟩ := fd__law_is_offset_right c
  refine okG F sc__law_is_offset_right (ps := pr__law_is_offset_right) (by intro vs H Q E h; obtain ⟨_, _, _, _, _, _, _, rfl, _⟩ := h; rfl) (fun cdv A0 outer s0 H vs Q E hG hr h => ?_) (FunD.bindsN F fun _ _ _ _ _ _ us hl => match us, hl with | [_, _, _, _], _ => rfl)
  obtain ⟨b, D, n, rs, ks, wd, o, rfl, hB, hL, lo, h1, h2, w1, w2, o0, o1, hQ⟩ := h
  obtain ⟨allOk, allB⟩ := lo.all
  have n14 := lo.n14
  have n1 := lo.n1
  obtain ⟨hnw, G, bk⟩ := lore_book lo w1 w2 h1 h2
  refine ⟨_, (PSs.nox (pss_cons (ps_set (i := 4) sc__law_is_offset_right.nd rfl (Or.inl rfl) (pe_callF (ok__law_block_found c) (hr.mono (by decide)) rfl (g__law_block_found c) (pa_cons (pv 1) (pa_cons (pv 2) (pa_cons (pv 3) pa_nil)))))
    (pss_cons (ps_for PassesOwn.never rfl (pi_range1 rfl (f_range c) (pa_cons (pe_dget (hu_of hr) (pv 1) pe_str (fun _ _ => rfl)) pa_nil)) (pg_name (i := 5) sc__law_is_offset_right.nd rfl (Or.inl rfl))
    (pss_one (ps_for PassesOwn.never rfl (pi_tup (pe_tup (pa_cons pe_bl (pa_cons pe_bl pa_nil)))) (pg_name (i := 6) sc__law_is_offset_right.nd rfl (Or.inl rfl))
    (pss_cons (ps_set (i := 7) sc__law_is_offset_right.nd rfl (Or.inl rfl) (pe_callF (ok__law_spot c) (hr.mono (by decide)) rfl (g__law_spot c) (pa_cons (pv 5) (pa_cons (pv 2) (pa_cons (pv 3) (pa_cons (pv 6) pa_nil))))))
    (pss_cons (ps_if (pt_cmpR op_ne (pe_callB (cr_repr hG hr.units) (by rfl) (f_repr c) (by decide +kernel) (pa_cons (pe_callF (ok_hangs c) (hr.mono (by decide)) rfl (g_hangs c) (pa_cons (pv 0) (pa_cons (pv 7) pa_nil))) pa_nil)) (pe_callB (cr_repr hG hr.units) (by rfl) (f_repr c) (by decide +kernel) (pa_cons (pe_callF (ok__law_at c) (hr.mono (by decide)) rfl (g__law_at c) (pa_cons (pv 4) (pa_cons (pv 7) pa_nil))) pa_nil)) (nomark _)) (pss_one (ps_ret pe_bl)) pss_nil)
    (pss_one (ps_if (pt_cmpR op_ne (pe_callB (cr_repr hG hr.units) (by rfl) (f_repr c) (by decide +kernel) (pa_cons (pe_callF (ok_heard c) (hr.mono (by decide)) rfl (g_heard c) (pa_cons (pv 0) (pa_cons (pv 7) (pa_cons pe_int pa_nil)))) pa_nil)) (pe_callB (cr_repr hG hr.units) (by rfl) (f_repr c) (by decide +kernel) (pa_cons (pe_tup (pa_cons (pe_callF (ok__law_at c) (hr.mono (by decide)) rfl (g__law_at c) (pa_cons (pv 4) (pa_cons (pv 7) pa_nil))) pa_nil)) pa_nil)) (nomark _)) (pss_one (ps_ret pe_bl)) pss_nil)))))))
    (pss_one (ps_ret pe_bl))))), ?_⟩
  refine ⟨_, rfl, _, rfl, _, rfl, D, n, rs, ks, 10 ^ 38, wd, o, rfl, hL, lo, h1, h2, w1, o0, o1, fun E1 Fo H1 s1 hF S hall => ?_⟩
  obtain ⟨T, N, us, ws, hD, _⟩ := id (hL.mono s1)
  have hB1 := hB.mono s1
  have br : ∀ {c : Bool} {A B : Prop}, (c = true → A) → (c = false → B) → (if c = true then A else B) := fun {c A B} h1 h2 => by
    cases c
    · exact h2 rfl
    · exact h1 rfl
  refine ⟨_, rfl, D, _, rfl, dg_size hD, _, rfl, by omega, by omega, ?_⟩
  refine for_it walk_range (fun i σ H' => ∃ (z5 z6 z7 : Option V), σ = [some (.ref b), some (.ref D), some (.int wd), some (.int o), some (.ref E1), z5, z6, z7] ∧ Go K b H1 H' ∧ BookAt K H' b (n * wd) (TiesOf wd rs ks) (FinOf n wd rs ks)) ⟨_, _, _, rfl, .of fun _ _ e => e, hB1⟩ (fun _ _ _ _ _ => trivial) (fun i x σ H3 H2 hi q hy => ?_) (fun σ H2 q => ?_)
  · obtain ⟨z5, z6, z7, rfl, sb, hB2⟩ := q
    obtain ⟨rfl, rfl⟩ := hy
    have hi2 : i < n.toNat := hi
    obtain ⟨pl, epl, p0, p1⟩ : ∃ pl : Int, pl = 0 + (i : Int) ∧ 0 ≤ pl ∧ pl < n := ⟨_, rfl, by omega, by omega⟩
    refine ⟨by show 2 ≤ sizeLine; decide, fun tp ntp => ⟨tp, rfl, ⟨_, .of upd_same⟩, ?_⟩⟩
    have st := same_upd ntp (o := .tup [V.bl false, V.bl true])
    have htp := @upd_same H2 tp (.tup [V.bl false, V.bl true])
    have hB3 := hB2.mono st
    have sb3 : Go K b H1 (upd H2 tp (.tup [V.bl false, V.bl true])) := sb.trans (.of st)
    revert htp hB3 sb3
    generalize upd H2 tp (.tup [V.bl false, V.bl true]) = H3
    intro htp hB3 sb3
    refine for_it (walk_tup (xs := [V.bl false, V.bl true])) (fun m σ H' => ∃ (z6 z7 : Option V), σ = [some (.ref b), some (.ref D), some (.int wd), some (.int o), some (.ref E1), some (.int pl), z6, z7] ∧ Go K b H3 H' ∧ BookAt K H' b (n * wd) (TiesOf wd rs ks) (FinOf n wd rs ks)) ⟨_, _, by rw [epl]; rfl, .of fun _ _ e => e, hB3⟩ (fun m σ H' _ e => by
      obtain ⟨_, _, _, sb4, _⟩ := e
      exact SqT.of (K := K) ((sb_ins hB3 sb4.sb).2.2 _ _ htp)) (fun m x σ H5 H4 hm q hy => ?_) (fun σ H4 q => ?_)
    · obtain ⟨z6, z7, rfl, sb4, hB4⟩ := q
      obtain ⟨rfl, hy⟩ := hy
      obtain ⟨t, rfl⟩ : ∃ t, x = V.bl t := by
        have hm2 : m < 2 := hm
        have : m = 0 ∨ m = 1 := by omega
        rcases this with rfl | rfl
        · exact ⟨false, (Option.some.inj hy).symm⟩
        · exact ⟨true, (Option.some.inj hy).symm⟩
      obtain ⟨⟨sp0, sp1⟩, sp2⟩ := spot_in (n := n) w1 o0 o1 p0 p1 t
      refine ⟨_, rfl, _, rfl, _, rfl, _, rfl, pl, wd, o, t, rfl, p0, by omega, ?_⟩
      have hF4 := fnd_bk hB1 (sb3.trans sb4).sb hF
      have small := cls_small w1 o0 o1 allOk hnw (M := 4 * 28 * (2 * 10 ^ 38) + 2 * 10 ^ 38) (by decide +kernel) S sp0 sp1
      have same : ∀ {C}, FinOf n wd rs ks C → (Fo.lookup (Lad.spot wd o pl t)).getD (.hang false (Lad.spot wd o pl t) 0) = Lad.readC C (Lad.spot wd o pl t) 0 false := fun {C} fC =>
        Lad.both_same w1 o0 o1 allOk fC.1 S (Lad.ones_block _ _ _) hall ⟨sp0, sp1⟩ sp2
      revert sp0 sp1 small same
      generalize Lad.spot wd o pl t = sp
      intro sp0 sp1 small same
      obtain ⟨An, eAn⟩ : ∃ An, (Fo.lookup sp).getD (.hang false sp 0) = An := ⟨_, rfl⟩
      rw [eAn] at small
      have sm := ans_small small
      have smT := tup_small (as := [An]) fun a ha => by rw [List.mem_singleton.mp ha]; exact small
      refine ⟨_, rfl, _, rfl, b, n * wd, TiesOf wd rs ks, FinOf n wd rs ks, _, sp, rfl, hB4, bk, sp0, sp1, fun u C H5 s5 hB5 fC ha => ?_⟩
      rw [← same fC, eAn] at ha
      obtain ⟨p5, rfl, hd⟩ := ans_dp (K := K) ha
      refine ⟨p5, ansD An, rfl, hd, sm.s, sm.n, Nat.le_trans sm.p (by decide), small_fits sm, ?_⟩
      have hF5 := fnd_bk hB4 s5.sb hF4
      refine ⟨_, rfl, _, rfl, E1, Fo, sp, rfl, hF5, fun v H6 s6 ha6 => ?_⟩
      rw [eAn] at ha6
      obtain ⟨p6, rfl, hd6⟩ := ans_dp (K := K) ha6
      refine ⟨p6, ansD An, rfl, hd6, sm.s, sm.n, Nat.le_trans sm.p (by decide), small_fits sm, rfl, _, rfl, ifN (by rw [decide_eq_true rfl]; rfl) ?_⟩
      have hB6 := hB5.mono s6
      have hF6 := hF5.mono s6
      refine ⟨_, rfl, _, rfl, b, n * wd, TiesOf wd rs ks, FinOf n wd rs ks, _, sp, 1, rfl, hB6, bk, sp0, sp1, by decide, by decide, by omega, fun p7 us7 C7 H7 s7 hB7 fC7 hp7 pa7 => ?_⟩
      have ean : answers C7 sp (1 : Int).toNat = [An] := by
        rw [← eAn, same fC7]
        show [Lad.readC C7 (sp + ((0 : Nat) : Int)) 0 false] = _
        rw [show sp + ((0 : Nat) : Int) = sp from by omega]
      rw [ean] at pa7
      refine ⟨p7, tupD [An], rfl, tup_dp hp7 pa7, smT.1, smT.2.1, smT.2.2.1, smT.2.2.2 (by show 1 ≤ 99; decide), ?_⟩
      have hF7 := fnd_bk hB6 s7.sb hF6
      refine ⟨_, rfl, _, rfl, E1, Fo, sp, rfl, hF7, fun v H8 s8 ha8 => ⟨by show 1 ≤ sizeLine; decide, fun y ny => ?_⟩⟩
      rw [eAn] at ha8
      have sy := same_upd ny (o := .tup [v])
      refine ⟨y, tupD [An], rfl, tup_dp upd_same (.cons (ha8.tu (Tu.of sy)) .nil), smT.1, smT.2.1, smT.2.2.1, smT.2.2.2 (by show 1 ≤ 99; decide), rfl, _, rfl, ifN (by rw [decide_eq_true rfl]; rfl) ?_⟩
      exact ⟨_, _, rfl, sb4.trans (s5.go.trans ((Go.of s6).trans (s7.go.trans (.of (s8.trans sy))))), hB7.mono (s8.trans sy)⟩
    · obtain ⟨z6, z7, rfl, sb4, hB4⟩ := q
      exact ⟨_, _, _, rfl, sb3.trans sb4, hB4⟩
  · obtain ⟨z5, z6, z7, rfl, sb, hB2⟩ := q
    exact hQ _ ((Go.of s1).trans sb) hB2
end
end TT

-- W41
set_option Elab.async false
set_option linter.all false
set_option maxRecDepth 100000
set_option maxHeartbeats 4000000
namespace TT
open PySem PySem.Spec PyProof.Rows L2 SX TL
/-! a book, a lore and a pot: what stays -/
theorem xs_pot {H H' : Hp} {g : Addr} {k : Int} (h : PotAt H g k) (s : Sb g H H') : Xs H H' := fun a o e n => by
  obtain ⟨x, y, z, e2, _⟩ := h
  refine s _ _ e fun q => ?_
  subst q
  rw [e2] at e
  exact n _ (Option.some.inj e).symm
theorem BookAt.pot {K : Fg} {H H' : Hp} {b g : Addr} {n k : Int} {ts : List Lad.Ti} {F : List Lad.Cut → Prop} (h : BookAt K H b n ts F) (hg : PotAt H g k) (s : Sb g H H') : BookAt K H' b n ts F := by
  have x := xs_pot hg s
  obtain ⟨dx, Ti, No, tx, L, vs, h1, h2, h3, h4, h5⟩ := h
  refine ⟨dx, Ti, No, tx, L, vs, x _ _ h1 (fun _ z => by cases z), x _ _ h2 (fun _ z => by cases z), pair_mono h3 fun _ _ y => y.xs x, x _ _ h4 (fun _ z => by cases z), ?_⟩
  rcases h5 with h | ⟨C, ⟨a, dx2, Cu, Pa, acc, ev, l1, l2, l3⟩, h7⟩
  · exact .inl h
  · refine .inr ⟨C, ⟨a, dx2, Cu, Pa, acc, ev, x _ _ l1 (fun _ z => by cases z), s _ _ l2 fun q => ?_, pair_mono l3 fun _ _ y => y.xs x⟩, h7⟩
    obtain ⟨a1, b1, c1, e2, _⟩ := hg
    rw [q, e2] at l2
    have e3 : [V.int a1, V.int b1, V.int c1] = acc := HO.lst.inj (Option.some.inj l2)
    subst e3
    cases l3 with
    | cons y _ =>
      obtain ⟨r, vk, z, _⟩ := y
      cases z
theorem LoreS.bk {K : Fg} {H H' : Hp} {b D g : Addr} {n m : Int} {ts : List Lad.Ti} {F : List Lad.Cut → Prop} {rs : List Lad.Row} {ks : Lad.Known} (hB : BookAt K H b m ts F) (s : Sb b H H') (h : LoreS H D g n rs ks) : LoreS H' D g n rs ks := by
  obtain ⟨k1, k2, k3⟩ := sb_ins hB s
  obtain ⟨T, N, us, ws, h1, h2, h3, h4, h5, h6, h7⟩ := h
  exact ⟨T, N, us, ws, k1 _ _ h1, k2 _ _ h2, pair_mono h3 fun _ _ y => y.tu k3, k2 _ _ h4, pair_mono h5 fun _ _ y => y.tu k3, h6, h7⟩
theorem PotAt.bk {K : Fg} {H H' : Hp} {b g : Addr} {m k : Int} {ts : List Lad.Ti} {F : List Lad.Cut → Prop} (hB : BookAt K H b m ts F) (s : Sb b H H') (h : PotAt H g k) : PotAt H' g k := by
  obtain ⟨k1, k2, k3⟩ := sb_ins hB s
  obtain ⟨x, y, z, e, r⟩ := h
  exact ⟨x, y, z, k2 _ _ e, r⟩
/-- all but a pot and a book -/
def Sc (g b : Addr) (H H' : Hp) : Prop := ∀ q o, H q = some o → q ≠ g → q ≠ b → H' q = some o
theorem Sc.g {g b : Addr} {H H' : Hp} (s : Sb g H H') : Sc g b H H' := fun q o e n _ => s _ _ e n
theorem Sc.b {g b : Addr} {H H' : Hp} (s : Sb b H H') : Sc g b H H' := fun q o e _ n => s _ _ e n
theorem Sc.trans {g b : Addr} {H H1 H2 : Hp} (s : Sc g b H H1) (t : Sc g b H1 H2) : Sc g b H H2 := fun q o e n m => t _ _ (s _ _ e n m) n m
theorem answers_succ (C : List Lad.Cut) (f : Int) (i : Nat) : answers C f (i + 1) = answers C f i ++ [Lad.readC C (f + (i : Nat)) 0 false] := by
  unfold answers
  rw [List.range_succ, List.map_append]
  rfl
theorem answers_len (C : List Lad.Cut) (f : Int) (i : Nat) : (answers C f i).length = i := by
  unfold answers
  rw [List.length_map, List.length_range]
section
variable {P : Program} {w : World} {K : Fg} {mg : Str → Option Value} {base : Heap}
abbrev n__law_is_window_right : List Str := ["_law_pot_here", "_law_book", "_law_lore_here", "_law_wide", "_law_first", "_law_length", "_law_due", "_law_place"]
abbrev pr__law_is_window_right : List Str := ["_law_pot_here", "_law_book", "_law_lore_here", "_law_wide"]
theorem sc__law_is_window_right : FnScope n__law_is_window_right pr__law_is_window_right (defScope s__law_is_window_right) := ⟨rfl, rfl, rfl, by decide +kernel, rfl, by decide +kernel, by decide +kernel⟩

def spWinR (K : Fg) : Sp := fun vs H Q _ => ∃ (g b D : Addr) (n : Int) (rs : List Lad.Row) (ks : Lad.Known) (wd k : Int), vs = [V.ref g, V.ref b, V.ref D, V.int wd] ∧ PotAt H g k ∧ k ≤ 70000 ∧ BookAt K H b (n * wd) (TiesOf wd rs ks) (FinOf n wd rs ks) ∧ LoreS H D g n rs ks ∧ Lad.LoreOk n rs ks (10 ^ 38) ∧ rs.length ≤ 4 ∧ ks.length ≤ 2 ∧ 1 ≤ wd ∧ wd ≤ 10 ^ 28 ∧
  ∀ H', Sc g b H H' → OnAt K H' b → PotAt H' g (k + 2) → BookAt K H' b (n * wd) (TiesOf wd rs ks) (FinOf n wd rs ks) → LoreS H' D g n rs ks → Q (V.bl true) H'
theorem ok__law_is_window_right (c : Env K mg) : PmG P w K mg base 17 (d__law_is_window_right.at_ K) (spWinR K) := by
  obtain ⟨fd, F⟩ := fd__law_is_window_right c
  refine okG F sc__law_is_window_right (ps := pr__law_is_window_right) (by intro vs H Q E h; obtain ⟨_, _, _, _, _, _, _, _, rfl, _⟩ := h; rfl) (fun cdv A0 outer s0 H vs Q E hG hr h => ?_) (FunD.bindsN F fun _ _ _ _ _ _ us hl => match us, hl with | [_, _, _, _], _ => rfl)
  obtain ⟨g, b, D, n, rs, ks, wd, k, rfl, hg, hk, hB, hL, lo, h1, h2, w1, w2, hQ⟩ := h
  obtain ⟨allOk, allB⟩ := lo.all
  have n14 := lo.n14
  have n1 := lo.n1
  obtain ⟨hnw, G, bk⟩ := lore_book lo w1 w2 h1 h2
  have small : ∀ {u : Int}, 1 ≤ u → u ≤ 100 → u.natAbs < 2 ^ 1000 := fun {u} h1 h2 => Nat.lt_of_le_of_lt (show u.natAbs ≤ 100 by omega) (Nat.lt_of_lt_of_le (show 100 < 2 ^ 7 by decide) (Nat.pow_le_pow_right (by decide) (by decide)))
  refine ⟨_, (PSs.nox (pss_cons (ps_set (i := 4) sc__law_is_window_right.nd rfl (Or.inl rfl) (pe_callB (call_max2 rfl) (by rfl) (f_max c) (by decide +kernel) (pa_cons pe_int (pa_cons (pe_op op_sub (pe_op op_mul (pe_callF (ok__law_take c) (hr.mono (by decide)) rfl (g__law_take c) (pa_cons (pv 0) (pa_cons (pe_dget (hu_of hr) (pv 2) pe_str (fun _ _ => rfl)) pa_nil))) (pv 3)) (pe_callF (ok__law_take c) (hr.mono (by decide)) rfl (g__law_take c) (pa_cons (pv 0) (pa_cons pe_int pa_nil)))) pa_nil))))
    (pss_cons (ps_set (i := 5) sc__law_is_window_right.nd rfl (Or.inl rfl) (pe_callB (call_min2 rfl) (by rfl) (f_min c) (by decide +kernel) (pa_cons pe_int (pa_cons (pe_callTy call_int1 (by rfl) (f_int c) (by decide +kernel) (pa_cons (pe_op op_sub (pe_at (get_book_size c (hr.mono (by decide))) (pv 1)) (pv 4)) pa_nil)) pa_nil))))
    (pss_cons (ps_set (i := 6) sc__law_is_window_right.nd rfl (Or.inl rfl) (pe_lst pa_nil))
    (pss_cons (ps_for PassesOwn.never rfl (pi_rangeL rfl (f_range c) (pa_cons (pv 4) (pa_cons (pe_op op_add (pv 4) (pv 5)) pa_nil))) (pg_name (i := 7) sc__law_is_window_right.nd rfl (Or.inl rfl))
    (pss_one (ps_expr (pe_bm PySem.F.plainAttrs_list PySem.F.slot_list_append PySem.F.type_list_append mt_append (pv 6) (pa_cons (pe_callF (ok__law_at c) (hr.mono (by decide)) rfl (g__law_at c) (pa_cons (pe_callF (ok__law_block_found c) (hr.mono (by decide)) rfl (g__law_block_found c) (pa_cons (pv 2) (pa_cons (pv 3) (pa_cons (pe_op op_mod (pe_callTy call_int1 (by rfl) (f_int c) (by decide +kernel) (pa_cons (pv 7) pa_nil)) (pv 3)) pa_nil)))) (pa_cons (pv 7) pa_nil))) pa_nil)))))
    (pss_one (ps_ret (pe_cmpR op_eq (pe_callB (cr_repr hG hr.units) (by rfl) (f_repr c) (by decide +kernel) (pa_cons (pe_callF (ok_heard c) (hr.mono (by decide)) rfl (g_heard c) (pa_cons (pv 1) (pa_cons (pv 4) (pa_cons (pv 5) pa_nil)))) pa_nil)) (pe_callB (cr_repr hG hr.units) (by rfl) (f_repr c) (by decide +kernel) (pa_cons (pe_callTy call_tuple_of (by rfl) (f_tuple c) (by decide +kernel) (pa_cons (pv 6) pa_nil)) pa_nil)) (nomark _))))))))), ?_⟩
  obtain ⟨T0, N0, us0, ws0, hD0, _⟩ := id hL
  refine ⟨_, rfl, _, rfl, D, _, rfl, dg_size hD0, g, n, k, rfl, hg, by omega, n1, small n1 (by omega), fun r H1 r0 r1 s1 g1 => ?_⟩
  have B1 := hB.pot hg s1
  have L1 := hL.sb hg s1
  refine ⟨_, rfl, _, _, rfl, rfl, .inl ⟨by omega, by omega⟩, _, rfl, g, 60, _, rfl, g1, by omega, by decide, small (by decide) (by decide), fun s H2 s0' s1' s2 g2 => ?_⟩
  have B2 := B1.pot g1 s2
  have LL2 := L1.sb g1 s2
  have S02 : Sc g b H H2 := (Sc.g s1).trans (Sc.g s2)
  have mw : r * wd ≤ (n - 1) * wd := Int.mul_le_mul_of_nonneg_right (by omega) (by omega)
  rw [Int.sub_mul] at mw
  have nw1 : 1 * wd ≤ n * wd := Int.mul_le_mul_of_nonneg_right n1 (by omega)
  refine ⟨_, _, rfl, rfl, _, _, rfl, ?_⟩
  obtain ⟨f, ef, f0, f1⟩ : ∃ f : Int, f = (if r * wd - s > 0 then r * wd - s else 0) ∧ 0 ≤ f ∧ f < n * wd := ⟨_, rfl, by split <;> omega, by split <;> omega⟩
  rw [← ef]
  obtain ⟨dx, Ti, No, tx, Lf, us, hb, _⟩ := id B2
  refine ⟨_, rfl, b, dx, n * wd, Ti, No, tx, Lf, rfl, hb, _, rfl, _, _, rfl, rfl, .inl ⟨_, rfl, _, _, rfl, ?_⟩⟩
  obtain ⟨l, el, l1, l99, lf⟩ : ∃ l : Int, l = (if n * wd - f < 99 then n * wd - f else 99) ∧ 1 ≤ l ∧ l ≤ 99 ∧ l ≤ n * wd - f := ⟨_, rfl, by split <;> omega, by split <;> omega, by split <;> omega⟩
  rw [← el]
  refine ⟨Nat.zero_le _, fun du ndu => ?_⟩
  have sdu := same_upd ndu (o := .lst [])
  refine ⟨_, rfl, _, rfl, _, rfl, _, _, rfl, rfl, f, _, rfl, ?_⟩
  have en : (f + l - f).toNat = l.toNat := by omega
  rw [en]
  refine for_it (walk_range (lo := f) (n := l.toNat)) (fun i σ H' => ∃ (acc : List V) (as : List Lad.Ans) (z7 : Option V), σ = [some (.ref g), some (.ref b), some (.ref D), some (.int wd), some (.int f), some (.int l), some (.ref du), z7] ∧ H' du = some (.lst acc) ∧ Paired (AnsAt H') acc as ∧ (as.length = i ∧ (∀ a ∈ as, AnsS a) ∧ ∀ C, FinOf n wd rs ks C → as = answers C f i) ∧ Same H2 H') ⟨[], [], _, rfl, upd_same, .nil, ⟨rfl, (fun _ h => nomatch h), fun _ _ => rfl⟩, sdu⟩ (fun _ _ _ _ _ => trivial) (fun i x σ H5 H4 hi q hy => ?_) (fun σ H4 q => ?_)
  · obtain ⟨acc, as, z7, rfl, hdu, pa, ⟨la, sm, ea⟩, s4⟩ := q
    obtain ⟨rfl, rfl⟩ := hy
    have hi2 : i < l.toNat := hi
    obtain ⟨q, eq, q0, q1⟩ : ∃ q : Int, q = f + (i : Int) ∧ 0 ≤ q ∧ q < n * wd := ⟨_, rfl, by omega, by omega⟩
    have o0 : 0 ≤ q % wd := Int.emod_nonneg _ (by omega)
    have o1 : q % wd < wd := Int.emod_lt_of_pos _ (by omega)
    have hlac := pair_len pa
    refine ⟨_, rfl, .inl ⟨rfl, _, .of hdu⟩, _, rfl, _, rfl, _, rfl, .inl ⟨_, rfl, _, rfl, _, _, rfl, rfl, (show 0 < wd by omega), D, n, rs, ks, 10 ^ 38, wd, q % wd, by rw [eq], (LL2.mono s4).lore, lo, h1, h2, w1, o0, o1, fun E Fo H6 s6 hF S hall => ⟨_, rfl, E, Fo, q, by rw [eq], hF, fun v H7 s7 ha => ?_⟩⟩⟩
    have s47 := s6.trans s7
    have small := cls_small w1 o0 o1 allOk hnw (M := 4 * 28 * (2 * 10 ^ 38) + 2 * 10 ^ 38) (by decide +kernel) S q0 q1
    have same : ∀ {C}, FinOf n wd rs ks C → (Fo.lookup q).getD (.hang false q 0) = Lad.readC C q 0 false := fun {C} fC =>
      Lad.both_same w1 o0 o1 allOk fC.1 S (Lad.ones_block _ _ _) hall ⟨q0, q1⟩ (.inl rfl)
    have hdu7 := s47 _ _ hdu
    refine ⟨du, acc, _, rfl, rfl, hdu7, lt_line (by omega), acc ++ [v], as ++ [(Fo.lookup q).getD (.hang false q 0)], _, rfl, upd_same, ?_, ⟨by rw [List.length_append, la]; rfl, fun a ha2 => ?_, fun C fC => ?_⟩, same_set (s4.trans s47) ndu⟩
    · have xs := Xs.lst (ys := acc ++ [v]) hdu7
      exact pair_app (pair_mono pa fun _ _ y => (y.tu (Tu.of s47)).xs xs) (.cons (ha.xs xs) .nil)
    · rcases List.mem_append.mp ha2 with z | z
      · exact sm a z
      · rw [List.mem_singleton.mp z]; exact small
    · rw [answers_succ, ea C fC, same fC, eq]
  · obtain ⟨acc, as, z7, rfl, hdu, pa, ⟨la, sm, ea⟩, s4⟩ := q
    have B4 := B2.mono s4
    refine ⟨_, rfl, _, rfl, _, rfl, b, n * wd, TiesOf wd rs ks, FinOf n wd rs ks, _, f, l, rfl, B4, bk, f0, f1, l1, l99, lf, fun p5 us5 C5 H5 s5 hB5 fC5 hp5 pa5 => ?_⟩
    rw [← ea C5 fC5] at pa5
    have smT := tup_small sm
    have l99' : as.length ≤ 99 := by omega
    refine ⟨p5, tupD as, rfl, tup_dp hp5 pa5, smT.1, smT.2.1, smT.2.2.1, smT.2.2.2 l99', ?_⟩
    obtain ⟨k1, k2, k3⟩ := sb_ins B4 s5.sb
    have hdu5 := k2 _ _ hdu
    refine ⟨_, rfl, du, acc, rfl, .inl ⟨.of hdu5, fun p6 np6 => ?_⟩⟩
    have s6 := same_upd np6 (o := .tup acc)
    refine ⟨p6, tupD as, rfl, tup_dp upd_same (pair_mono pa fun _ _ y => y.tu (k3.trans (Tu.of s6))), smT.1, smT.2.1, smT.2.2.1, smT.2.2.2 l99', rfl, ?_⟩
    rw [decide_eq_true rfl]
    refine hQ _ (S02.trans ((Sc.b (Sb.of s4)).trans ((Sc.b s5.sb).trans (Sc.b (Sb.of s6))))) (s5.on.mono s6) ?_ (hB5.mono s6) ?_
    · exact ((g2.le (by omega)).mono s4 |>.bk B4 s5.sb).mono s6
    · exact (((LL2.mono s4).bk B4 s5.sb)).mono s6
end
end TT

-- W42
set_option Elab.async false
set_option linter.all false
set_option maxRecDepth 100000
set_option maxHeartbeats 4000000
namespace TT
open PySem PySem.Spec PyProof.Rows L2 SX TL
theorem block_rowS {n wd : Int} (w1 : 1 ≤ wd) (w2 : wd ≤ 10 ^ 28) (n14 : n ≤ 14) {r : Lad.Row} (h : Lad.RowOk n r) {B : Nat} (hB : r.a.natAbs ≤ B) (hB2 : B ≤ 10 ^ 50) : RowS (Lad.blockRow wd r) ∧ RowT (n * wd) (Lad.blockRow wd r) := by
  have a1 := h.f0
  have a2 := h.s0
  have a3 := h.l1
  have a4 := h.fe
  have a5 := h.se
  have nn : n * wd ≤ 14 * wd := Int.mul_le_mul_of_nonneg_right n14 (by omega)
  have mul0 : ∀ {x : Int}, 0 ≤ x → 0 ≤ x * wd := fun {x} hx => Int.mul_nonneg hx (by omega)
  have mulM : ∀ {x : Int}, x ≤ n → x * wd ≤ n * wd := fun {x} hx => Int.mul_le_mul_of_nonneg_right hx (by omega)
  have f0 := mul0 a1
  have s0 := mul0 a2
  have l0 : wd ≤ r.l * wd := by
    have : 1 * wd ≤ r.l * wd := Int.mul_le_mul_of_nonneg_right a3 (by omega)
    omega
  have f2 := mulM a4
  have s2 := mulM a5
  rw [Int.add_mul] at f2 s2
  have big : (14 : Int) * 10 ^ 28 < 10 ^ 30 := by decide
  refine ⟨⟨?_, ?_, ?_, ?_, fun hb => ?_⟩, ⟨⟨f0, s0, ?_, ?_, ?_⟩, f2, s2, ?_⟩⟩
  · show (r.f * wd).natAbs < 10 ^ 100
    omega
  · show (r.s * wd).natAbs < 10 ^ 100
    omega
  · show (r.l * wd).natAbs < 10 ^ 100
    omega
  · show r.a.natAbs < 10 ^ 100
    omega
  · have := h.bb hb
    show 1 < r.l * wd
    have : 2 * wd ≤ r.l * wd := Int.mul_le_mul_of_nonneg_right (by omega) (by omega)
    omega
  · show 1 ≤ r.l * wd
    omega
  · show r.f * wd + r.l * wd ≤ 10 ^ 30
    omega
  · show r.s * wd + r.l * wd ≤ 10 ^ 30
    omega
  · show r.a.natAbs < 10 ^ 600
    exact Nat.lt_of_le_of_lt (Nat.le_trans hB hB2) (Nat.pow_lt_pow_right (by decide) (by decide))
theorem OnAt.pot {K : Fg} {H H' : Hp} {b g : Addr} {k : Int} (h : OnAt K H b) (hg : PotAt H g k) (s : Sb g H H') : OnAt K H' b := by
  obtain ⟨dx, n, Ti, No, tx, L, e, r⟩ := h
  exact ⟨dx, n, Ti, No, tx, L, xs_pot hg s _ _ e (fun _ z => by cases z), r⟩
theorem ties_map (wd : Int) (rs : List Lad.Row) (ks : Lad.Known) : ((Lad.allRows rs ks).map (Lad.blockRow wd)).map Lad.tieOf = TiesOf wd rs ks := by
  unfold TiesOf Lad.bigTies
  rw [List.map_map]
  rfl
section
variable {P : Program} {w : World} {K : Fg} {mg : Str → Option Value} {base : Heap}
abbrev n__law_right : List Str := ["_law_pot_here", "_law_lore_here", "_law_wide", "_law_book", "_law_offset"]
abbrev pr__law_right : List Str := ["_law_pot_here"]
theorem sc__law_right : FnScope n__law_right pr__law_right (defScope s__law_right) := ⟨rfl, rfl, rfl, by decide +kernel, rfl, by decide +kernel, by decide +kernel⟩

def spRight (K : Fg) : Sp := fun vs H Q _ => ∃ (g : Addr) (k : Int), vs = [V.ref g] ∧ PotAt H g k ∧ k ≤ 50000 ∧ ∀ H', Sb g H H' → PotAt H' g (k + 100) → Q (V.bl true) H'
theorem ok__law_right (c : Env K mg) : PmG P w K mg base 18 (d__law_right.at_ K) (spRight K) := by
  obtain ⟨fd, F⟩ := fd__law_right c
  refine okG F sc__law_right (ps := pr__law_right) (by intro vs H Q E h; obtain ⟨_, _, rfl, _⟩ := h; rfl) (fun cdv A0 outer s0 H vs Q E hG hr h => ?_) (FunD.bindsN F fun _ _ _ _ _ _ us hl => match us, hl with | [_], _ => rfl)
  obtain ⟨g, k, rfl, hg, hk, hQ⟩ := h
  refine ⟨_, (PSs.nox (pss_cons (ps_set (i := 1) sc__law_right.nd rfl (Or.inr rfl) (pe_callF (ok__law_lore c) (hr.mono (by decide)) rfl (g__law_lore c) (pa_cons (pv 0) (pa_cons pe_int (pa_cons pe_int (pa_cons pe_int pa_nil))))))
    (pss_cons (ps_set (i := 2) sc__law_right.nd rfl (Or.inr rfl) (pe_op op_add pe_int (pe_callF (ok__law_far c) (hr.mono (by decide)) rfl (g__law_far c) (pa_cons (pv 0) (pa_cons (pe_callF (ok__law_of c) (hr.mono (by decide)) rfl (g__law_of c) (pa_cons (pv 0) (pa_cons (pe_lst (pa_cons pe_int (pa_cons pe_int (pa_cons pe_int (pa_cons pe_int (pa_cons (pe_op op_pow pe_int pe_int) (pa_cons (pe_op op_pow pe_int pe_int) (pa_cons (pe_op op_pow pe_int pe_int) pa_nil)))))))) pa_nil))) pa_nil)))))
    (pss_cons (ps_set (i := 3) sc__law_right.nd rfl (Or.inr rfl) (pe_book c (hr.mono (by decide)) rfl (pa_cons (pe_callF (ok__law_book_text c) (hr.mono (by decide)) rfl (g__law_book_text c) (pa_cons (pe_callF (ok__law_blocks c) (hr.mono (by decide)) rfl (g__law_blocks c) (pa_cons (pv 1) (pa_cons (pv 2) pa_nil))) pa_nil)) pa_nil)))
    (pss_cons (ps_if (pt_not (pt_val (pe_callG (ok__law_is_window_right c) hG (hr.mono (by decide)) rfl (g__law_is_window_right c) (pa_cons (pv 0) (pa_cons (pv 3) (pa_cons (pv 1) (pa_cons (pv 2) pa_nil))))))) (pss_one (ps_ret pe_bl)) pss_nil)
    (pss_one (ps_ret (pe_callB (cr_all rfl) (by rfl) (f_all c) (by decide +kernel) (pa_cons (pe_lc (own := [("_law_offset", 4)]) (g := (gName 4)) (tt := tYes) (by rfl) sc__law_right.nd (pi_list (pe_callF (ok__law_offsets c) (hr.mono (by decide)) rfl (g__law_offsets c) (pa_cons (pv 0) (pa_cons (pv 2) pa_nil)))) (blkOk_by (own := [("_law_offset", 4)]) (N := n__law_right) (sc := defScope s__law_right) (by decide +kernel)) (fun _ _ _ _ _ => (pg_name (i := 4) sc__law_right.nd rfl (Or.inl rfl))) (fun _ _ _ _ _ => pts_nil) (fun _ _ _ _ _ => (pe_callG (ok__law_is_offset_right c) hG (hr.mono (by decide)) rfl (g__law_is_offset_right c) (pa_cons (pv 3) (pa_cons (pv 1) (pa_cons (pv 2) (pa_cons (pv 4) pa_nil))))))) pa_nil))))))))), ?_⟩
  refine ⟨_, rfl, g, k, rfl, hg, by omega, fun D n rs ks H1 s1 nD g1 L1 lo h1 h2 => ?_⟩
  have n1 := lo.n1
  have n14 := lo.n14
  obtain ⟨allOk, allB⟩ := lo.all
  refine ⟨_, rfl, _, rfl, _, _, rfl, rfl, ⟨by decide, by decide, by decide⟩, _, _, rfl, rfl, ⟨by decide, by decide, by decide⟩, _, _, rfl, rfl, ⟨by decide, by decide, by decide⟩, by show 7 ≤ sizeLine; decide, fun l nl => ?_⟩
  have sl := same_upd nl (o := .lst ([1, 2, 3, 10, 10 ^ Int.toNat 6, 10 ^ Int.toNat 18, 10 ^ Int.toNat 27].map V.int))
  have gl := g1.mono sl
  refine ⟨g, l, [1, 2, 3, 10, 10 ^ Int.toNat 6, 10 ^ Int.toNat 18, 10 ^ Int.toNat 27], _, rfl, gl, by omega, .of upd_same, g1.ne nl, (show 1 ≤ 7 by decide), (show 7 ≤ 100 by decide), fun r H2 hr2 s2 g2 => ?_⟩
  have hr3 : 1 ≤ r ∧ r ≤ 10 ^ 27 := by
    simp only [List.mem_cons, List.not_mem_nil, or_false] at hr2
    rcases hr2 with rfl | rfl | rfl | rfl | rfl | rfl | rfl <;> decide
  refine ⟨g, r, _, rfl, g2, by omega, hr3.1, fun x H3 x0 x1 s3 g3 => ⟨_, _, rfl, rfl, ?_⟩⟩
  obtain ⟨wd, ewd, w1, w2⟩ : ∃ wd : Int, wd = 1 + x ∧ 1 ≤ wd ∧ wd ≤ 10 ^ 28 := ⟨_, rfl, by omega, by omega⟩
  rw [show ((fun i j => V.int (i + j)) 1 x) = V.int wd from congrArg V.int ewd.symm]
  have LL3 := ((L1.mono sl).sb gl s2).sb g2 s3
  have s03 : Sb g H H3 := s1.trans ((Sb.of sl).trans (s2.trans s3))
  have lall : (Lad.allRows rs ks).length = rs.length + ks.length := by
    unfold Lad.allRows
    rw [List.length_append, List.length_map]
  have e1 : n * wd ≤ 14 * wd := Int.mul_le_mul_of_nonneg_right n14 (by omega)
  have nw1 : 1 * wd ≤ n * wd := Int.mul_le_mul_of_nonneg_right n1 (by omega)
  have rowsOk : ∀ q ∈ (Lad.allRows rs ks).map (Lad.blockRow wd), RowS q ∧ RowT (n * wd) q := fun q hq => by
    obtain ⟨r, hr, rfl⟩ := List.mem_map.mp hq
    exact block_rowS w1 w2 n14 (allOk r hr) (allB r hr) (by decide +kernel)
  refine ⟨_, rfl, _, rfl, D, n, rs, ks, wd, rfl, LL3.lore, by omega, by omega, by omega, by omega, fun r hr => ?_, fun D' H4 s4 L4 => ?_⟩
  · have O := allOk r hr
    have a1 := O.f0
    have a2 := O.s0
    have a3 := O.l1
    have a4 := O.fe
    have a5 := O.se
    exact ⟨a1, by omega, a2, by omega, by omega, by omega⟩
  refine ⟨D', n * wd, (Lad.allRows rs ks).map (Lad.blockRow wd), rfl, L4, by rw [List.length_map]; omega, by omega, fun q hq => (rowsOk q hq).1, fun H5 s5 => ?_⟩
  refine ⟨n * wd, (Lad.allRows rs ks).map (Lad.blockRow wd), rfl, by omega, by omega, by rw [List.length_map]; omega, fun q hq => (rowsOk q hq).2, fun b H6 s6 nb hB => ?_⟩
  have hB6 := hB (FinOf n wd rs ks)
  rw [ties_map] at hB6
  have s36 := s4.trans (s5.trans s6)
  have LL6 := LL3.mono s36
  have g6 := g3.mono s36
  have s06 : Sb g H H6 := s03.trans (Sb.of s36)
  have nb0 : ∀ {q : Addr} {o : HO}, H q = some o → q ≠ g → q ≠ b := fun {q o} e ne z => by
    have := s4.trans s5 _ _ (s03 _ _ e ne)
    rw [z, nb] at this
    cases this
  refine ⟨_, rfl, _, rfl, _, rfl, _, rfl, g, b, D, n, rs, ks, wd, _, rfl, g6, by omega, hB6, LL6, lo, h1, h2, w1, w2, fun H7 sc7 on7 g7 hB7 L7 => ⟨_, rfl, ifN rfl ?_⟩⟩
  refine ⟨_, rfl, _, rfl, g, wd, _, rfl, g7, by omega, w1, fun a os H8 s8 g8 ha nag hos hoo => ⟨a, rfl, ⟨_, .of ha⟩, fun Lc nLc => ?_⟩⟩
  have hB8 := hB7.pot g7 s8
  have L8 := L7.sb g7 s8
  have on8 : OnAt K H8 b := on7.pot g7 s8
  refine lc_it (walk_list (xs := os.map V.int)) (fun i H' => H' Lc = some (.lst ((List.replicate i true).map V.bl)) ∧ Same H8 H') ⟨upd_same, same_upd nLc⟩ (fun i H' _ q => SqL.of (K := K) (q.2 _ _ ha)) (fun i x H10 H9 hi q hy => ?_) (fun H9 q => ?_)
  · obtain ⟨hLc, s9⟩ := q
    obtain ⟨rfl, hy⟩ := hy
    have hi6 : i < os.length := by
      have hi : i < (os.map V.int).length := hi
      rw [List.length_map] at hi
      exact hi
    rw [List.getElem?_map] at hy
    obtain ⟨o, ho, rfl⟩ := Option.map_eq_some_iff.mp hy
    obtain ⟨o0, o1⟩ := hoo o (List.mem_of_getElem? ho)
    refine ⟨rfl, _, rfl, _, rfl, _, rfl, _, rfl, b, D, n, rs, ks, wd, o, rfl, hB8.mono s9, (L8.mono s9).lore, lo, h1, h2, w1, w2, o0, o1, fun H10 go10 hB10 => ?_⟩
    have s10 := (go10.was (on8.mono s9)).1
    refine ⟨_, s10 _ _ hLc, lt_line (by rw [List.length_map, List.length_replicate]; omega), ?_, same_set (s9.trans s10) nLc⟩
    rw [upd_same, List.replicate_succ', List.map_append]
    rfl
  · obtain ⟨hLc, s9⟩ := q
    refine ⟨Lc, List.replicate (os.map V.int).length true, rfl, .of hLc, ?_⟩
    rw [show (List.replicate (os.map V.int).length true).all id = true from List.all_eq_true.mpr fun b hb => List.eq_of_mem_replicate hb]
    exact hQ _ (fun q u e ne => s9 _ _ (s8 _ _ (sc7 _ _ (s06 _ _ e ne) ne (nb0 e ne)) ne)) ((g8.mono s9).le (by omega))
end
end TT

-- W43
set_option Elab.async false
set_option linter.all false
set_option maxRecDepth 100000
set_option maxHeartbeats 4000000
namespace TT
open PySem PySem.Spec PyProof.Rows L2 SX TL
theorem sq_fresh {K : Fg} {H H' : Hp} {a g : Addr} {xs : List V} (h : SqL K H a xs) (ng : H g = none) (s : Sb g H H') : SqL K H' a xs := by
  rcases h with h | h
  · rcases h with h | ⟨o, h⟩
    · exact .inl (.inl (s _ _ h fun z => by rw [z, ng] at h; cases h))
    · exact .inl (.inr ⟨o, s _ _ h fun z => by rw [z, ng] at h; cases h⟩)
  · exact .inr h
section
variable {P : Program} {w : World} {K : Fg} {mg : Str → Option Value} {base : Heap}
abbrev n_law : List Str := ["_law_script", "_law_number", "_law_pot_here", "_law_lap"]
abbrev pr_law : List Str := ["_law_script"]
theorem sc_law : FnScope n_law pr_law (defScope s_law) := ⟨rfl, rfl, rfl, by decide +kernel, rfl, by decide +kernel, by decide +kernel⟩

def spLaw (K : Fg) : Sp := fun vs H Q _ => ∃ (s : Addr) (ns : List Int), vs = [V.ref s] ∧ SqL K H s (ns.map V.int) ∧ ∀ H', Q (V.bl true) H'
theorem ok_law (c : Env K mg) : PmG P w K mg base 19 (d_law.at_ K) (spLaw K) := by
  obtain ⟨fd, F⟩ := fd_law c
  refine okG F sc_law (ps := pr_law) (by intro vs H Q E h; obtain ⟨_, _, rfl, _⟩ := h; rfl) (fun cdv A0 outer s0 H vs Q E hG hr h => ?_) (FunD.bindsN F fun _ _ _ _ _ _ us hl => match us, hl with | [_], _ => rfl)
  obtain ⟨s, ns, rfl, hs, hQ⟩ := h
  refine ⟨_, (PSs.nox (pss_cons (ps_for PassesOwn.never rfl (pi_list (pe_callF (ok__law_cells c) (hr.mono (by decide)) rfl (g__law_cells c) (pa_cons (pv 0) (pa_cons pe_int pa_nil)))) (pg_name (i := 1) sc_law.nd rfl (Or.inl rfl))
    (pss_cons (ps_set (i := 2) sc_law.nd rfl (Or.inr rfl) (pe_callF (ok__law_pot c) (hr.mono (by decide)) rfl (g__law_pot c) (pa_cons (pv 0) (pa_cons (pv 1) pa_nil))))
    (pss_one (ps_if (pt_not (pt_val (pe_callB (cr_all rfl) (by rfl) (f_all c) (by decide +kernel) (pa_cons (pe_lc (own := [("_law_lap", 3)]) (g := (gName 3)) (tt := tYes) (by rfl) sc_law.nd (pi_range1 rfl (f_range c) (pa_cons pe_int pa_nil)) (blkOk_by (own := [("_law_lap", 3)]) (N := n_law) (sc := defScope s_law) (by decide +kernel)) (fun _ _ _ _ _ => (pg_name (i := 3) sc_law.nd rfl (Or.inl rfl))) (fun _ _ _ _ _ => pts_nil) (fun _ _ _ _ _ => (pe_callG (ok__law_right c) hG (hr.mono (by decide)) rfl (g__law_right c) (pa_cons (pv 2) pa_nil)))) pa_nil)))) (pss_one (ps_ret pe_bl)) pss_nil))))
    (pss_one (ps_ret pe_bl)))), ?_⟩
  refine ⟨_, rfl, s, ns, rfl, hs, fun a cs H1 hcs s1 ha => ⟨a, rfl, ⟨_, .of ha⟩, ?_⟩⟩
  have hs1 : SqL K H1 s (ns.map V.int) := by
    rcases hs with h | h
    · rcases h with h | ⟨o, h⟩
      · exact .inl (.inl (s1 _ _ h))
      · exact .inl (.inr ⟨o, s1 _ _ h⟩)
    · exact .inr h
  refine for_it (walk_list (xs := cs.map V.int)) (fun i σ H' => ∃ (z1 z2 z3 : Option V), σ = [some (.ref s), z1, z2, z3] ∧ Same H1 H') ⟨_, _, _, rfl, fun _ _ e => e⟩ (fun i σ H' _ e => by
    obtain ⟨_, _, _, _, s2⟩ := e
    exact SqL.of (K := K) (s2 _ _ ha)) (fun i x σ H3 H2 hi q hy => ?_) (fun σ H2 q => ?_)
  · obtain ⟨z1, z2, z3, rfl, s2⟩ := q
    obtain ⟨rfl, hy⟩ := hy
    rw [List.getElem?_map] at hy
    obtain ⟨n, hn, rfl⟩ := Option.map_eq_some_iff.mp hy
    obtain ⟨n0, n10⟩ := hcs n (List.mem_of_getElem? hn)
    have hs2 : SqL K H2 s (ns.map V.int) := by
      rcases hs1 with h | h
      · rcases h with h | ⟨o, h⟩
        · exact .inl (.inl (s2 _ _ h))
        · exact .inl (.inr ⟨o, s2 _ _ h⟩)
      · exact .inr h
    refine ⟨_, rfl, _, rfl, s, n, ns, rfl, hs2, n0, n10, fun g H3 s3 ng hg => ?_⟩
    have s13 := s2.trans s3
    refine ⟨2, rfl, by decide, by decide, fun Lc nLc => ?_⟩
    have sl := same_upd nLc (o := .lst [])
    have nLg := hg.ne nLc
    refine lc_it walk_range (fun i H' => H' Lc = some (.lst ((List.replicate i true).map V.bl)) ∧ Sb g H3 H' ∧ PotAt H' g (0 + 100 * i)) ⟨upd_same, Sb.of sl, (hg.mono sl).le (by omega)⟩ (fun _ _ _ _ => trivial) (fun j x H5 H4 hj q hy => ?_) (fun H4 q => ?_)
    · obtain ⟨hLc, sb, g4⟩ := q
      obtain ⟨rfl, rfl⟩ := hy
      have hj2 : j < 2 := hj
      refine ⟨rfl, _, rfl, g, _, rfl, g4, by omega, fun H5 s5 g5 => ?_⟩
      refine ⟨_, s5 _ _ hLc nLg, lt_line (by rw [List.length_map, List.length_replicate]; omega), ?_, sb_set (sb.trans s5) nLc, ?_⟩
      · rw [upd_same, List.replicate_succ', List.map_append]
        rfl
      · obtain ⟨a1, b1, c1, e1, r1⟩ := g5.le (k' := 0 + 100 * ((j + 1 : Nat) : Int)) (by omega)
        exact ⟨a1, b1, c1, by rw [upd_ne (fun z => nLg z.symm)]; exact e1, r1⟩
    · obtain ⟨hLc, sb, g4⟩ := q
      refine ⟨Lc, List.replicate 2 true, rfl, .of hLc, _, rfl, ifN rfl ⟨_, _, _, rfl, fun q u e => sb _ _ (s13 _ _ e) ?_⟩⟩
      exact ne_of_none (s2 _ _ e) ng
  · obtain ⟨z1, z2, z3, rfl, s2⟩ := q
    exact hQ _
end
end TT

-- W44
set_option Elab.async false
set_option linter.all false
set_option maxRecDepth 100000
set_option maxHeartbeats 0
open PySem PySem.W PySem.Calls PyProof.Rows
theorem PySem.Challenge.cw_turnedtunes_k18_whole_hangs_of_rows_of_p_holds : PySem.Challenge.rw_turnedtunes_k18_whole_hangs_of_rows_of_p.Holds := by
  w_on; o_law
  refine HandSHeadRun.head_any (r := OpenLaw.row PySem.Challenge.rw_turnedtunes_k18_whole_hangs_of_rows_of_p) (q := view (OpenLaw.row PySem.Challenge.rw_turnedtunes_k18_whole_hangs_of_rows_of_p).prog [118]) (H := TT.hk) (ob := TT.ob) (M := 20000) (loose := TT.names) (d := HandSHeadRun.topDef (OpenLaw.row PySem.Challenge.rw_turnedtunes_k18_whole_hangs_of_rows_of_p).prog 118) (kwd := []) TT.ob_eq
    (by kernel_rfl) (fun s => by kernel_rfl) TT.run (by kernel_rfl) (by kernel_rfl) (by kernel_rfl) (by rfl) (by first | assumption | decide +kernel) (by decide +kernel) ⟨rfl, rfl, rfl, rfl, rfl, by decide +kernel⟩ ?hw ?hc
  case hw => w_witness2
  case hc =>
    refine TT.walk_ofG (l := PySem.Challenge.rw_turnedtunes_k18_whole_hangs_of_rows_of_p) (n := 63) (k := 19) rfl (by decide) (by kernel_rfl) ⟨rfl, by decide, by decide⟩ ?F
    intro w mg fa h Y G hmg0
    obtain ⟨K, KX, c⟩ := Y
    have hmg : mg ("law" : PySem.Str) = some (.ref fa) := by
      have e : (HandSHeadRun.topDef (OpenLaw.row PySem.Challenge.rw_turnedtunes_k18_whole_hangs_of_rows_of_p).prog 118).name = ("law" : PySem.Str) := by kernel_rfl
      rw [← e]
      exact hmg0
    have env : TT.Env K mg := ⟨c, fun {x u} e => by
      cases u with
      | none => exact PySem.W.mg_none_of KX G e
      | some v => exact PySem.W.mg_of KX G e⟩
    have ea : fa = TT.d_law.at_ K := by
      have := hmg.symm.trans (TT.g_law env)
      cases this
      rfl
    subst ea
    exact ⟨K, TT.spLaw K, KX, fun H a ns hl _ hS => ⟨a, ns, rfl, hS, fun _ => rfl⟩, fun base _ _ => (TT.ok_law env).run⟩
