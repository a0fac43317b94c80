import PyProof.Rows.All
import Wide.All
import OpenK.AllK
import Wide.FinOn
import HandS.ForMost
import HandS.Exc
import HandS.ExcOwn
import HandS.Defaults
import HandS.TupAny
import HandS.IsInst
import HandS.Zip
import HandS.Dict
import HandS.Wide
import HandS.Deep
import HandS.Style
import HandS.Text
import HandS.CallSlots
import HandS.Flow
import HandS.Iter
import HandS.WordsExc
import HandS.List
import HandS.Head0
import HandS.Head1
import HandS.Head2
import HandS.HeadEnd
import HandS.HeadHook1
import HandS.HeadHook2
import KE.IntTextLaws
import KE.IntTextText
import PyProof.StrLawsIn
import PySem.Challenge.RW_weirwatch_k01_words_told
set_option Elab.async false
set_option linter.all false
set_option autoImplicit false
set_option maxRecDepth 100000
set_option maxHeartbeats 0
namespace Mi
/-- all names of defs, classes, methods, fields and constants -/
inductive Nm where
  | n_Basin | n_Broken | n_Days | n_Desk | n_FIGURES | n_FORMS | n_FlapGate | n_Gate
  | n_Guard | n_Holding | n_LONGEST_NAME | n_Lost | n_MOST_BASINS | n_MOST_CLOUD | n_MOST_FIGURES | n_MOST_LEVEL
  | n_MOST_LEVEL_gates | n_MOST_LEVEL_rivers | n_MOST_MARK | n_MOST_MARKS | n_MOST_NUMBER | n_MOST_PROMISED | n_MOST_RAIN | n_MOST_TOWNS
  | n_MOST_TURNS | n_MOST_WANT | n_MOST_WEIGHT | n_NoBasin | n_NoChoice | n_NoCloud | n_NoGate | n_NoLine
  | n_NoName | n_NoNumber | n_NoPromise | n_NoRain | n_NoRiver | n_NoStanding | n_NoStuck | n_NoText
  | n_NoTown | n_NotServed | n_PLAIN_WORDS | n_PartGate | n_River | n_Round | n_Run | n_SMALL
  | n_Serving | n_Standings | n_Step | n_StepGate | n_StuckGate | n_TooMany | n_Town | n_Turn
  | n_TurnKeeper | n_WeirError | n_Words | n_init | n_law_alike | n_law_all_refused | n_law_all_right | n_law_alone
  | n_law_answer | n_law_answers | n_law_any | n_law_any_river | n_law_are | n_law_asked | n_law_asked_odd | n_law_bad
  | n_law_bare | n_law_basin | n_law_basin_due | n_law_basins | n_law_bears | n_law_begun | n_law_bounds | n_law_breaks
  | n_law_by_hand | n_law_called | n_law_can_stand | n_law_cell | n_law_changes | n_law_choice | n_law_choice_right | n_law_choice_text
  | n_law_choices | n_law_classes | n_law_deed | n_law_deed_right | n_law_drawn | n_law_drawn_rain | n_law_dry | n_law_due
  | n_law_easy | n_law_faulty | n_law_fell | n_law_figures | n_law_first | n_law_first_broken | n_law_forced | n_law_formed
  | n_law_full_right | n_law_gap_wrong | n_law_gate | n_law_gate_is | n_law_gates | n_law_given | n_law_good | n_law_good_right
  | n_law_great | n_law_hand | n_law_heavy | n_law_heavy_right | n_law_held | n_law_held_wrong | n_law_holds | n_law_in_turn
  | n_law_is | n_law_is_choice | n_law_is_key | n_law_is_name | n_law_is_number | n_law_is_pair | n_law_is_rain | n_law_is_right
  | n_law_is_standing | n_law_is_way | n_law_is_whole | n_law_keeper | n_law_keeper_here | n_law_kept | n_law_kind | n_law_kinds
  | n_law_known | n_law_least | n_law_left | n_law_less | n_law_lets | n_law_letters | n_law_levels | n_law_light
  | n_law_light_by_stuck | n_law_line | n_law_lines | n_law_listed | n_law_lists | n_law_lone_right | n_law_look | n_law_lost
  | n_law_losts | n_law_made | n_law_made_gate | n_law_marks | n_law_moves | n_law_name | n_law_names | n_law_nearer
  | n_law_nearest | n_law_never_paid | n_law_next | n_law_no_basin | n_law_no_basins | n_law_no_choice | n_law_no_holding | n_law_no_keeper
  | n_law_no_less | n_law_no_list | n_law_no_name | n_law_no_number | n_law_no_place | n_law_no_standing | n_law_no_towns | n_law_no_way
  | n_law_number | n_law_number_right | n_law_numbers | n_law_numbers_are | n_law_odd | n_law_odd_key | n_law_odd_right | n_law_odd_value
  | n_law_of_days | n_law_of_tables | n_law_other_tuple | n_law_outcome | n_law_pair | n_law_pair_put | n_law_pair_spoilt | n_law_pairs_right
  | n_law_parts | n_law_pays | n_law_pick | n_law_plain | n_law_promised | n_law_put | n_law_rain | n_law_rains
  | n_law_raised | n_law_reached | n_law_refused | n_law_right | n_law_river | n_law_row | n_law_row_put | n_law_rows
  | n_law_run_right | n_law_safe_river | n_law_said | n_law_salt | n_law_same | n_law_scene | n_law_serve | n_law_served
  | n_law_served_wrong | n_law_serving | n_law_settings | n_law_shown | n_law_sky | n_law_sky_here | n_law_sky_right | n_law_spoilt
  | n_law_standing | n_law_standing_text | n_law_standings | n_law_state | n_law_step_right | n_law_strange | n_law_stream | n_law_stuck
  | n_law_stuck_due | n_law_stuck_refused | n_law_stuck_right | n_law_tables | n_law_take | n_law_text | n_law_texts | n_law_thing
  | n_law_things | n_law_to | n_law_told | n_law_town_due | n_law_turn | n_law_turn_due | n_law_turn_right | n_law_turn_told
  | n_law_turned | n_law_turned_right | n_law_twice | n_law_value_put | n_law_values | n_law_ways | n_law_ways_right | n_law_weight
  | n_law_whole | n_law_whole_right | n_law_word | n_law_word_spoilt | n_law_words | n_law_wrong | n_wall | n_all_choices
  | n_all_next | n_allowed | n_append | n_are_answers | n_are_basins | n_are_marks | n_are_numbers | n_are_promises
  | n_are_towns | n_are_ways | n_at | n_basin | n_basin_in | n_basins | n_begin | n_beginning
  | n_begun | n_behind | n_breaks | n_broken | n_broken_in | n_broken_ones | n_by_wet | n_changes
  | n_choice | n_choice_for | n_choice_in | n_choice_shown | n_choices | n_choices_in | n_clear | n_cloud
  | n_count | n_days | n_done | n_drawn | n_ended | n_extend | n_fallen | n_final
  | n_first_bad | n_first_broken | n_fixed | n_fixed_by | n_followers | n_forced_rain | n_found | n_gain
  | n_gate | n_gate_in | n_get | n_given | n_go_back | n_gone | n_good | n_good_choices
  | n_good_ones | n_guard_now | n_guarded | n_guards | n_has_standings | n_heavy | n_held | n_held_many
  | n_high | n_holding | n_index | n_inside | n_is_broken | n_is_choice | n_is_from_one | n_is_held
  | n_is_keeper_table | n_is_lost | n_is_name | n_is_open_choice | n_is_over | n_is_paid | n_is_pair | n_is_plain
  | n_is_rain | n_is_row | n_is_serving_table | n_is_sky_table | n_is_standing | n_is_two | n_is_unserved_table | n_is_whole
  | n_items | n_join | n_keeper | n_keeper_of | n_keeper_table | n_kind | n_kinds_next | n_lacked
  | n_last | n_law | n_leads_on | n_least_promise | n_left_by | n_lets | n_levels | n_levels_in
  | n_line | n_listed | n_local_keeper | n_log | n_lone_levels | n_lone_lost | n_lone_setting | n_look_at
  | n_look_at_all | n_lost | n_lost_numbers | n_low | n_made_step | n_many | n_many_rows | n_marked
  | n_marks | n_mend | n_name | n_need_asked | n_need_both | n_need_choice | n_need_number | n_need_place
  | n_need_standing | n_need_town | n_need_whole | n_new_name | n_next_by | n_next_ones | n_note | n_number
  | n_number_in | n_number_of | n_number_of_served | n_numbers_for | n_of_days | n_of_river | n_of_tables | n_one_of
  | n_options | n_outs | n_paid | n_paid_by | n_pairs | n_partition | n_parts | n_pays
  | n_place | n_place_in_row | n_place_of | n_pop | n_present | n_product | n_promises | n_rain
  | n_rain_against | n_rain_bounds | n_rain_by | n_rain_for | n_rains | n_rains_at | n_read_river | n_river
  | n_row_in | n_row_shown | n_rows_up_to | n_run | n_say | n_serve | n_serve_shown | n_served
  | n_serves | n_serving | n_serving_now | n_serving_table | n_servings | n_setdefault | n_setting | n_settings
  | n_settings_before | n_settings_by | n_settings_in | n_show_river | n_sinks | n_sky_of | n_sky_table | n_split
  | n_spoil | n_spoilt | n_standing | n_standing_at | n_standing_in | n_standing_shown | n_standings | n_start
  | n_starves | n_step_by | n_steps | n_stick | n_stuck_now | n_take_away | n_taken | n_tell
  | n_thing | n_thing_in | n_things_in | n_town | n_town_in | n_towns | n_turn | n_turn_shown
  | n_turned | n_turns | n_turns_left | n_turns_to | n_unserved | n_unserved_table | n_update | n_upper
  | n_usable | n_values | n_waiting | n_want | n_weigh | n_weight | n_weight_of | n_wet
  | n_wide | n_word | n_words
  deriving DecidableEq, Repr
end Mi
namespace Mi
open PySem (Str)

/-! ## values -/
/-- data and objects that no longer change, and references to those that may -/
inductive U where
  | non | bl (b : Bool) | int (i : Int) | str (x : Str)
  | tup (xs : List U) | lst (xs : List U) | dct (kvs : List (U × U))
  | obj (c : Nm) (fs : List U) | xc (c : Nm) (fs : List U)
  | ref (n : Nat) | fn (f : Nm) | clo (f : Nm) (caps : List U)
  | scr (ns : List Int)
  deriving Inhabited

mutual
/-- == of data -/
def eqb : U → U → Bool
  | .non, .non => true
  | .bl a, .bl b => a == b
  | .bl a, .int j => (if a then 1 else 0) == j
  | .int i, .bl b => i == (if b then 1 else 0)
  | .int i, .int j => i == j
  | .str x, .str y => x == y
  | .lst xs, .lst ys => eqbL xs ys
  | .tup xs, .tup ys => eqbL xs ys
  | _, _ => false
def eqbL : List U → List U → Bool
  | [], [] => true
  | x :: xs, y :: ys => eqb x y && eqbL xs ys
  | _, _ => false
end
def strOk (x : Str) : Bool := x.cps.all (· < 0x110000)
mutual
/-- plain data, at most n deep -/
def dat (n : Nat) : U → Bool
  | .non => true
  | .bl _ => true
  | .int _ => true
  | .str x => strOk x
  | .lst xs => (match n with
    | 0 => false
    | m + 1 => datL m xs)
  | .tup xs => (match n with
    | 0 => false
    | m + 1 => datL m xs)
  | _ => false
def datL (n : Nat) : List U → Bool
  | [] => true
  | x :: xs => dat n x && datL n xs
end

/-- the objects that may change; none: they may not be looked at -/
abbrev CH := Option (List U)
/-- what an expression gives: a value, a new object that nothing else holds, an object held by a slot alone -/
inductive E where
  | fz (u : U) | own (u : U) | loc (i : Nat)
  deriving Inhabited
inductive Res (α : Type) where
  | ok (a : α) (h : CH)
  | exc (c : Nm) (fs : List U) (h : CH)
  | stuck
def Res.bind {α β : Type} : Res α → (α → CH → Res β) → Res β
  | .ok a h, f => f a h
  | .exc c fs h, _ => .exc c fs h
  | .stuck, _ => .stuck
/-- a slot: a value, or an object that it alone holds -/
inductive Sl where
  | val (u : U) | own (u : U)
  deriving Inhabited
abbrev Slots := List (Option Sl)
/-- a value to be kept -/
def E.keep (h : CH) : E → Res U
  | .fz u => .ok u h
  | .own u => .ok u h
  | .loc _ => .stuck
/-- what stands there -/
def E.see (σ : Slots) (h : CH) : E → Option U
  | .fz (.ref n) => (match h with
    | some xs => xs[n]?
    | none => none)
  | .fz u => some u
  | .own u => some u
  | .loc i => (match σ[i]? with
    | some (some (.own u)) => some u
    | _ => none)

/-! ## the program's text -/
inductive Bop where
  | add | sub | mul | mod | fdiv | pow | band | shr
  deriving DecidableEq
inductive Cop where
  | eq | ne | lt | le | gt | ge | is_ | isnot | in_ | notin
  deriving DecidableEq
inductive Ty where
  | int | bool | str | list | tuple | dict
  deriving DecidableEq
/-- built-in functions of values -/
inductive Bf where
  | len | abs | min | max | sum | all | any | tuple | list | dict | sorted | repr | str | int | bool | divmod | lenset | sortedItems | listItems
  deriving DecidableEq
/-- built-in methods that change nothing -/
inductive Bm where
  | get | index | join | split | partition | upper | count
  deriving DecidableEq
/-- built-in methods that change the object -/
inductive Mm where
  | append | extend | clear | pop | setdefault | update
  deriving DecidableEq
inductive Tgt where
  | nm (i : Nat) | tp (ts : List Tgt)
mutual
inductive CE where
  | var (i : Nat)
  | cst (n : Nm)
  | non | bl (b : Bool) | int (i : Int) | str (x : Str)
  | tup (es : List CE) | lst (es : List CE) | dct (ks vs : List CE)
  | op (o : Bop) (a b : CE) | neg (a : CE) | test (t : CT)
  | cmp (o : Cop) (a b : CE) | chain (o p : Cop) (a b c : CE)
  | call (f : Nm) (es : List CE) (k : Nat) | make (c : Nm) (es : List CE) (k : Nat) | meth (m : Nm) (o : CE) (es : List CE)
  | callv (f : CE) (es : List CE)
  | bf (b : Bf) (es : List CE) | bm (m : Bm) (o : CE) (es : List CE) | mm (m : Mm) (o : CE) (es : List CE)
  | isty (a : CE) (ts : List Ty) | iscl (a : CE) (cs : List Nm)
  | attr (a : Nm) (o : CE)
  | ix (o i : CE) | slice (o : CE) (lo hi : Option CE)
  | comp (g : Tgt) (it : CI) (c : List CT) (e : CE)
  | fstr (es : List CE)
inductive CT where
  | val (e : CE) | bv (e : CE) | cmp (o : Cop) (a b : CE) | chain (o p : Cop) (a b c : CE) | not (t : CT) | notv (e : CE) | and (ts : List CT) | or (ts : List CT)
inductive CI where
  | seq (e : CE) | range (es : List CE) | enum (e : CE) | zip (es : List CE) | items (e : CE) | values (e : CE) | rev (e : CE)
end
mutual
inductive CS where
  | expr (e : CE)
  | set (i : Nat) (e : CE)
  | own (i : Nat) (e : CE)
  | put (g : Tgt) (e : CE)
  | attr (a : Nm) (o e : CE)
  | ix (o i e : CE)
  | aug (i : Nat) (o : Bop) (e : CE)
  | augix (o i : CE) (p : Bop) (e : CE)
  | augattr (a : Nm) (o : CE) (p : Bop) (e : CE)
  | ret (e : CE) | retv (i : Nat) | ret0
  | ite (c : CT) (a b : List CS)
  | for_ (g : Tgt) (it : CI) (b : List CS)
  | while (c : CT) (b : List CS)
  | brk | cont | pass
  | raise (c : Nm) (es : List CE)
  | try_ (b : List CS) (hs : List CH1)
  | mut (d : Option Nat) (i : Nat) (m : Mm) (es : List CE)
  | frz (i : Nat) | share (i : Nat)
  | lam (i : Nat) (f : Nm) (caps : List Nat)
/-- a handler: its classes, its slot, its suite -/
inductive CH1 where
  | mk (cs : List Nm) (i : Option Nat) (b : List CS)
end
structure CDef where
  params : Nat
  slots : Nat
  body : List CS

/-! ## operators -/
abbrev line : Nat := 16777216
def small (i : Int) : Bool := decide (i.natAbs < 18446744073709551616)
/-- operators of two values; the result is new where it is a list -/
def bop : Bop → U → U → Option E
  | .add, .int i, .int j => some (.fz (.int (i + j)))
  | .add, .str x, .str y => if x.length + y.length ≤ line then some (.fz (.str (x ++ y))) else none
  | .add, .tup xs, .tup ys => if xs.length + ys.length ≤ line then some (.fz (.tup (xs ++ ys))) else none
  | .add, .lst xs, .lst ys => if xs.length + ys.length ≤ line then some (.own (.lst (xs ++ ys))) else none
  | .sub, .int i, .int j => some (.fz (.int (i - j)))
  | .mul, .int i, .int j => if small i || small j then some (.fz (.int (i * j))) else none
  | .mul, .lst xs, .int j => if xs.length * j.toNat ≤ line && decide (-9223372036854775808 ≤ j) && decide (j < 9223372036854775808) then some (.own (.lst (List.replicate j.toNat xs).flatten)) else none
  | .mod, .int i, .int j => if 0 < j then some (.fz (.int (i % j))) else none
  | .fdiv, .int i, .int j => if 0 < j ∧ j.natAbs.log2 < 9000 then some (.fz (.int (i / j))) else none
  | .pow, .int i, .int j => if 0 ≤ j ∧ j ≤ 1000 ∧ small i = true then some (.fz (.int (i ^ j.toNat))) else none
  | .shr, .int i, .int j => if 0 ≤ j then some (.fz (.int (i / 2 ^ j.toNat))) else none
  | _, _, _ => none
def isNon : U → Bool
  | .non => true
  | _ => false
def lkup (k : U) : List (U × U) → Option U
  | [] => none
  | (a, b) :: r => if eqb a k then some b else lkup k r
/-- a key of a plain dict -/
def isKey : U → Bool
  | .int _ => true
  | .str _ => true
  | _ => false
def asInts : List U → Option (List Int)
  | [] => some []
  | .int i :: r => (asInts r).map (i :: ·)
  | _ :: _ => none
def asBools : List U → Option (List Bool)
  | [] => some []
  | .bl i :: r => (asBools r).map (i :: ·)
  | _ :: _ => none
def asStrs : List U → Option (List Str)
  | [] => some []
  | .str i :: r => (asStrs r).map (i :: ·)
  | _ :: _ => none
def flatU : U → Bool
  | .non => true
  | .bl _ => true
  | .int _ => true
  | .str _ => true
  | _ => false
def hasSub (x y : Str) : Bool := !(PySem.Builtin.Str.occurrences y x 0 y.length 1).isEmpty
def elemU (u : U) (xs : List U) : Bool := xs.any fun x => eqb x u
/-- comparisons of two things seen -/
def cop : Cop → U → U → Option Bool
  | .eq, u, v => if dat 16 u && dat 16 v then some (eqb u v) else none
  | .ne, u, v => if dat 16 u && dat 16 v then some (!eqb u v) else none
  | .lt, .int i, .int j => some (decide (i < j))
  | .lt, .tup xs, .tup ys => (asInts xs).bind fun ns => (asInts ys).map fun ms => HT.lexLt ns ms
  | .le, .int i, .int j => some (decide (i ≤ j))
  | .gt, .int i, .int j => some (decide (j < i))
  | .ge, .int i, .int j => some (decide (j ≤ i))
  | .is_, u, .non => some (isNon u)
  | .isnot, u, .non => some (!isNon u)
  | .is_, .bl c, .bl b => some (decide (c = b))
  | .isnot, .bl c, .bl b => some (!decide (c = b))
  | .in_, .str x, .str y => some (hasSub x y)
  | .notin, .str x, .str y => some (!(hasSub x y))
  | .in_, u, .lst xs => if dat 16 u && datL 16 xs then some (elemU u xs) else none
  | .in_, u, .tup xs => if flatU u && xs.all flatU then some (elemU u xs) else none
  | .notin, u, .lst xs => if dat 16 u && datL 16 xs then some (!elemU u xs) else none
  | .notin, u, .tup xs => if flatU u && xs.all flatU then some (!elemU u xs) else none
  | .in_, u, .dct kvs => if isKey u then some ((lkup u kvs).isSome) else none
  | .notin, u, .dct kvs => if isKey u then some (!(lkup u kvs).isSome) else none
  | _, _, _ => none
/-- truth -/
def tru : U → Option Bool
  | .bl b => some b
  | .int i => some (i != 0)
  | .non => some false
  | .str x => if x.length ≤ line then some ((x.length : Int) != 0) else none
  | .tup xs => some (!xs.isEmpty)
  | .lst xs => some (!xs.isEmpty)
  | _ => none
/-- the built-in type of a thing -/
inductive Kn where
  | non | bool | int | str | tuple | list | dict
  deriving DecidableEq
def knd : U → Option Kn
  | .non => some .non
  | .bl _ => some .bool
  | .int _ => some .int
  | .str _ => some .str
  | .tup _ => some .tuple
  | .lst _ => some .list
  | .dct _ => some .dict
  | _ => none
def knTy : Kn → Ty → Bool
  | .bool, .int => true
  | .bool, .bool => true
  | .int, .int => true
  | .str, .str => true
  | .tuple, .tuple => true
  | .list, .list => true
  | .dict, .dict => true
  | _, _ => false
def isTy (u : U) (t : Ty) : Option Bool := (knd u).map fun k => knTy k t
def isTys (u : U) : List Ty → Option Bool
  | [] => some false
  | t :: ts => match isTy u t with
    | some true => some true
    | some false => isTys u ts
    | none => none
/-- a slice -/
def cut {α : Type} (xs : List α) (lo hi : Option Int) : List α := (xs.drop (HT.sIx xs.length 0 lo)).take (HT.sIx xs.length xs.length hi - HT.sIx xs.length 0 lo)
def getIx : U → U → Option U
  | .tup xs, .int i => L2.atI xs i
  | .lst xs, .int i => L2.atI xs i
  | .str x, .int i => if x.length ≤ line then (L2.atI x.cps.toList i).map fun c => .str ⟨#[c]⟩ else none
  | .dct kvs, k => if isKey k then lkup k kvs else none
  | .scr ns, .int i => (L2.atI ns i).map .int
  | _, _ => none
def optInt : Option U → Option (Option Int)
  | none => some none
  | some (.int i) => some (some i)
  | some _ => none
def sliced (u : U) (lo hi : Option Int) : Option E := match u with
  | .tup xs => some (.fz (.tup (cut xs lo hi)))
  | .lst xs => some (.own (.lst (cut xs lo hi)))
  | .scr ns => some (.own (.lst (cut (ns.map .int) lo hi)))
  | .str x => if x.length ≤ line then some (.fz (.str ⟨(cut x.cps.toList lo hi).toArray⟩)) else none
  | _ => none
def distinct : List Str → Nat
  | [] => 0
  | x :: r => if r.contains x then distinct r else distinct r + 1
def insInt (i : Int) : List Int → List Int
  | [] => [i]
  | j :: r => if i ≤ j then i :: j :: r else j :: insInt i r
def sortInts : List Int → List Int
  | [] => []
  | i :: r => insInt i (sortInts r)
def keysOf (kvs : List (U × U)) : List U := kvs.map (·.1)
def itemsOf (kvs : List (U × U)) : List U := kvs.map fun p => .tup [p.1, p.2]
/-- built-in functions of what is seen -/
def bfun : Bf → List U → Option E
  | .len, [.tup xs] => some (.fz (.int xs.length))
  | .len, [.lst xs] => some (.fz (.int xs.length))
  | .len, [.scr ns] => some (.fz (.int ns.length))
  | .len, [.str x] => if x.length ≤ line then some (.fz (.int x.length)) else none
  | .abs, [.int i] => some (.fz (.int (if i < 0 then -i else i)))
  | .min, [.int i, .int j] => some (.fz (.int (min i j)))
  | .max, [.int i, .int j] => some (.fz (.int (max i j)))
  | .sum, [.lst xs] => (asInts xs).map fun ys => .fz (.int ys.sum)
  | .all, [.lst xs] => (asBools xs).map fun ys => .fz (.bl (ys.all id))
  | .any, [.lst xs] => (asBools xs).map fun ys => .fz (.bl (ys.any id))
  | .tuple, [.lst xs] => some (.fz (.tup xs))
  | .tuple, [.tup xs] => some (.fz (.tup xs))
  | .list, [.lst xs] => some (.own (.lst xs))
  | .list, [.tup xs] => some (.own (.lst xs))
  | .str, [.int i] => if i.natAbs.log2 < 1920 then some (.fz (.str (toString i))) else none
  | .int, [.int i] => some (.fz (.int i))
  | .int, [.bl b] => some (.fz (.int (if b then 1 else 0)))
  | .int, [.str x] => if x.length ≤ 640 then (PySem.intText? x).map fun i => .fz (.int i) else none
  | .divmod, [.int i, .int j] => if 0 < j ∧ j < 1073741824 then some (.fz (.tup [.int (i / j), .int (i % j)])) else none
  | _, _ => none
def findU (u : U) : List U → Nat → Option Nat
  | [], _ => none
  | x :: r, k => if eqb x u then some k else findU u r (k + 1)
/-- built-in methods that change nothing, of what is seen -/
def bmeth : Bm → U → List U → Option E
  | .get, .dct kvs, [k] => some (.fz ((lkup k kvs).getD .non))
  | .get, .dct kvs, [k, d] => some (.fz ((lkup k kvs).getD d))
  | .join, .str a, [.lst xs] => (asStrs xs).bind fun ys => if (ys.map (·.length)).sum + ys.length * a.length ≤ line then some (.fz (.str (Str.join a ys))) else none
  | .index, .lst xs, [u] => if dat 16 u && datL 16 xs then (findU u xs 0).map fun k => .fz (.int k) else none
  | .index, .tup xs, [u] => if dat 16 u && datL 16 xs then (findU u xs 0).map fun k => .fz (.int k) else none
  | _, _, _ => none
/-- whose method it is -/
def bmK : Bm → U → Option Unit
  | .join, .str _ => some ()
  | .get, .dct _ => some ()
  | .index, .lst _ => some ()
  | .index, .tup _ => some ()
  | _, _ => none
def putKv (k v : U) : List (U × U) → List (U × U)
  | [] => [(k, v)]
  | (a, b) :: r => if eqb a k then (a, v) :: r else (a, b) :: putKv k v r
def dropKv (k : U) : List (U × U) → List (U × U)
  | [] => []
  | (a, b) :: r => if eqb a k then r else (a, b) :: dropKv k r
/-- methods that change an object: what is told, what stands then -/
def mmeth : Mm → U → List U → Option (U × U)
  | .append, .lst xs, [u] => if xs.length < line then some (.non, .lst (xs ++ [u])) else none
  | .extend, .lst xs, [.lst ys] => if xs.length + ys.length ≤ line then some (.non, .lst (xs ++ ys)) else none
  | .clear, .lst _, [] => some (.non, .lst [])
  | .clear, .dct _, [] => some (.non, .dct [])
  | .pop, .lst xs, [] => (xs[xs.length - 1]?).map fun u => (u, .lst xs.dropLast)
  | .pop, .dct kvs, [k] => (lkup k kvs).map fun u => (u, .dct (dropKv k kvs))
  | .pop, .dct kvs, [k, d] => some ((lkup k kvs).getD d, .dct (dropKv k kvs))
  | .setdefault, .dct kvs, [k, d] => (match lkup k kvs with
    | some u => some (u, .dct kvs)
    | none => if kvs.length < line then some (d, .dct (putKv k d kvs)) else none)
  | _, _, _ => none
/-- o[i] = v: what stands then -/
def setIx : U → U → U → Option U
  | .lst xs, .int i, v => (L2.ixN xs.length i).map fun k => .lst (xs.set k v)
  | _, _, _ => none

/-! ## running -/
inductive Fk where
  | fn (f : Nm) | me (c m : Nm)
  deriving DecidableEq
/-- what the program's text gives beside its defs: constants, the fields of classes in their order, the classes above a class -/
structure Top where
  cst : Nm → Option U
  lay : Nm → List Nm
  ups : Nm → List Nm
def ixOf (a : Nm) : List Nm → Nat → Option Nat
  | [], _ => none
  | b :: r, k => if a = b then some k else ixOf a r (k + 1)
def getFld (T : Top) (a : Nm) : U → Option U
  | .obj c fs => (ixOf a (T.lay c) 0).bind fun k => fs[k]?
  | .xc c fs => (ixOf a (T.lay c) 0).bind fun k => fs[k]?
  | _ => none
def setFld (T : Top) (a : Nm) (v : U) : U → Option U
  | .obj c fs => (ixOf a (T.lay c) 0).bind fun k => if k < fs.length then some (.obj c (fs.set k v)) else if k = fs.length then some (.obj c (fs ++ [v])) else none
  | _ => none
def isCl (T : Top) (u : U) (c : Nm) : Option Bool := match u with
  | .obj d _ => some (decide (d = c) || (T.ups d).contains c)
  | .xc d _ => some (decide (d = c) || (T.ups d).contains c)
  | .ref _ => none
  | .clo .. => none
  | .fn _ => none
  | _ => some false
def isCls (T : Top) (u : U) : List Nm → Option Bool
  | [] => some false
  | c :: r => match isCl T u c with
    | some true => some true
    | some false => isCls T u r
    | none => none
mutual
def bindT : Tgt → U → Slots → Option Slots
  | .nm i, u, σ => if i < σ.length then some (σ.set i (some (.val u))) else none
  | .tp ts, .tup xs, σ => bindTs ts xs σ
  | .tp _, _, _ => none
def bindTs : List Tgt → List U → Slots → Option Slots
  | [], [], σ => some σ
  | t :: ts, x :: xs, σ => (bindT t x σ).bind fun σ' => bindTs ts xs σ'
  | _, _, _ => none
end
abbrev Phi := Fk → List U → CH → Res E
def ofOpt {α : Type} (o : Option α) (h : CH) : Res α := match o with
  | some a => .ok a h
  | none => .stuck
def zip2 (xs ys : List U) : List U := (xs.zip ys).map fun p => .tup [p.1, p.2]
def zipOf : List U → Option (List U)
  | [.tup xs, .tup ys] => some (zip2 xs ys)
  | [.lst xs, .lst ys] => some (zip2 xs ys)
  | _ => none
def enumFrom (k : Nat) : List U → List U
  | [] => []
  | x :: r => .tup [.int k, x] :: enumFrom (k + 1) r
def rangeU (lo : Int) (n : Nat) : List U := (List.range n).map fun (i : Nat) => .int (lo + i)
/-- the items of a thing seen -/
def itemsU : U → Option (List U)
  | .tup xs => some xs
  | .lst xs => some xs
  | .str x => if x.length ≤ line then some (x.cps.toList.map fun c => .str ⟨#[c]⟩) else none
  | _ => none
def enumU : U → Option (List U)
  | .lst xs => some (enumFrom 0 xs)
  | _ => none
def wide (i : Int) : Bool := Nat.ble i.natAbs 4611686018427387903
def rangeOf : List U → Option (List U)
  | [.int j] => if wide j && decide (j.toNat ≤ line) then some (rangeU 0 j.toNat) else none
  | [.int i, .int j] => if wide i && wide j && decide ((j - i).toNat ≤ line) then some (rangeU i (j - i).toNat) else none
  | [.int i, .int j, .int k] => if wide i && wide j && decide (k = -1) && decide ((i - j).toNat ≤ line) then some ((List.range (i - j).toNat).map fun (n : Nat) => .int (i - n)) else none
  | _ => none
/-- a comprehension's turns -/
def goComp (f : U → CH → Res (Option U)) : List U → CH → List U → Res (List U)
  | [], h, acc => .ok acc h
  | x :: r, h, acc => match f x h with
    | .ok (some u) h' => goComp f r h' (acc ++ [u])
    | .ok none h' => goComp f r h' acc
    | .exc .. => .stuck
    | .stuck => .stuck
/-- a thing that is walked: no cell -/
def E.src (st : Bool) (σ : Slots) : E → Option U
  | .fz (.ref _) => none
  | .fz u => some u
  | .own u => some u
  | .loc i => if st then none else (match σ[i]? with
    | some (some (.own u)) => some u
    | _ => none)
def srcs (st : Bool) (σ : Slots) : List E → Option (List U)
  | [] => some []
  | e :: r => (e.src st σ).bind fun u => (srcs st σ r).map (u :: ·)
/-- two things seen at once -/
def see2 {α : Type} (σ : Slots) (h : CH) (e e' : E) (f : U → U → Option α) : Option α := (e.see σ h).bind fun u => (e'.see σ h).bind fun v => f u v
/-- what is seen of it -/
def seen (σ : Slots) (r : Res E) : Res U := r.bind fun e h => ofOpt (e.see σ h) h
section
variable (T : Top) (φ : Phi)
/-- a call's end: no slot of the callee is told -/
def ended : Res E → Res E
  | .ok (.loc _) _ => .stuck
  | r => r
mutual
def evE (σ : Slots) : CE → CH → Res E
  | .var i, h => (match σ[i]? with
    | some (some (.val u)) => .ok (.fz u) h
    | some (some (.own _)) => .ok (.loc i) h
    | _ => .stuck)
  | .cst n, h => (match T.cst n with
    | some u => .ok (.fz u) h
    | none => .stuck)
  | .non, h => .ok (.fz .non) h
  | .bl b, h => .ok (.fz (.bl b)) h
  | .int i, h => .ok (.fz (.int i)) h
  | .str x, h => .ok (.fz (.str x)) h
  | .tup es, h => (evK σ es h).bind fun us h => .ok (.fz (.tup us)) h
  | .lst es, h => (evK σ es h).bind fun us h => .ok (.own (.lst us)) h
  | .dct ks vs, h => (match ks, vs with
    | [], [] => .ok (.own (.dct [])) h
    | _, _ => .stuck)
  | .op o a b, h => (evE σ a h).bind fun e h => (evE σ b h).bind fun e' h => ofOpt (see2 σ h e e' (bop o)) h
  | .neg a, h => (seen σ (evE σ a h)).bind fun u h => (match u with
    | .int i => .ok (.fz (.int (-i))) h
    | _ => .stuck)
  | .test t, h => (evT σ t h).bind fun b h => .ok (.fz (.bl b)) h
  | .cmp o a b, h => (evE σ a h).bind fun e h => (evE σ b h).bind fun e' h => (ofOpt (see2 σ h e e' (cop o)) h).bind fun c h => .ok (.fz (.bl c)) h
  | .chain o p a b c, h => (evE σ a h).bind fun e h => (evE σ b h).bind fun e' h => (ofOpt (see2 σ h e e' (cop o)) h).bind fun d h => (match d with
    | true => (evE σ c h).bind fun e'' h => (ofOpt (see2 σ h e' e'' (cop p)) h).bind fun d h => .ok (.fz (.bl d)) h
    | false => .ok (.fz (.bl false)) h)
  | .call f es k, h => (evK σ es h).bind fun us h => ended (φ (.fn f) (us ++ List.replicate k .non) h)
  | .make c es k, h => (evK σ es h).bind fun us h => ended (φ (.me c .n_init) (us ++ List.replicate k .non) h)
  | .meth m o es, h => (evE σ o h).bind fun e h => (e.keep h).bind fun u h => (evK σ es h).bind fun us h => (match e.see σ h with
    | some (.obj c _) => ended (φ (.me c m) (u :: us) h)
    | _ => .stuck)
  | .callv f es, h => (evE σ f h).bind fun e h => (evK σ es h).bind fun us h => (match e with
    | .fz (.fn f) => ended (φ (.fn f) us h)
    | .fz (.clo f caps) => ended (φ (.fn f) (caps ++ us) h)
    | _ => .stuck)
  | .bf b es, h => (evSs σ es h).bind fun us h => ofOpt (bfun b us) h
  | .bm m o es, h => (evE σ o h).bind fun e h => (ofOpt ((e.see σ h).bind (bmK m)) h).bind fun _ h => (evSs σ es h).bind fun us h => ofOpt ((e.see σ h).bind fun u => bmeth m u us) h
  | .mm m o es, h => (evE σ o h).bind fun e h => (evK σ es h).bind fun us h => (match e, h with
    | .fz (.ref n), some xs => (match xs[n]? with
      | some u => (match mmeth m u us with
        | some (r, u') => .ok (.fz r) (some (xs.set n u'))
        | none => .stuck)
      | none => .stuck)
    | _, _ => .stuck)
  | .isty a ts, h => (seen σ (evE σ a h)).bind fun u h => (ofOpt (isTys u ts) h).bind fun b h => .ok (.fz (.bl b)) h
  | .iscl a cs, h => (seen σ (evE σ a h)).bind fun u h => (ofOpt (isCls T u cs) h).bind fun b h => .ok (.fz (.bl b)) h
  | .attr a o, h => (seen σ (evE σ o h)).bind fun u h => (ofOpt (getFld T a u) h).bind fun v h => .ok (.fz v) h
  | .ix o i, h => (evE σ o h).bind fun e h => (evE σ i h).bind fun e' h => (ofOpt (see2 σ h e e' getIx) h).bind fun w h => .ok (.fz w) h
  | .slice o lo hi, h => (evE σ o h).bind fun e h => (evO σ lo h).bind fun a h => (evO σ hi h).bind fun b h => ofOpt ((e.see σ h).bind fun u => sliced u a b) h
  | .comp g it cs e, h => (evI false σ it h).bind fun xs h =>
      (goComp (fun x h => (match bindT g x σ with
        | some σ' => (evTs σ' cs h).bind fun b h => (match b with
          | true => (evE σ' e h).bind fun r h => (r.keep h).bind fun u h => .ok (some u) h
          | false => .ok none h)
        | none => .stuck)) xs h []).bind fun ys h => .ok (.own (.lst ys)) h
  | .fstr _, _ => .stuck
def evK (σ : Slots) : List CE → CH → Res (List U)
  | [], h => .ok [] h
  | c :: r, h => (evE σ c h).bind fun e h => (e.keep h).bind fun u h => (evK σ r h).bind fun us h => .ok (u :: us) h
def evSs (σ : Slots) : List CE → CH → Res (List U)
  | [], h => .ok [] h
  | c :: r, h => (evE σ c h).bind fun e h => (evSs σ r h).bind fun us h => (ofOpt (e.see σ h) h).bind fun u h => .ok (u :: us) h
def evO (σ : Slots) : Option CE → CH → Res (Option Int)
  | none, h => .ok none h
  | some c, h => (evE σ c h).bind fun e h => (match e with
    | .fz (.int i) => .ok (some i) h
    | _ => .stuck)
def evT (σ : Slots) : CT → CH → Res Bool
  | .not a, h => (evT σ a h).bind fun b h => .ok (!b) h
  | .notv c, h => (seen σ (evE σ c h)).bind fun u h => (ofOpt (tru u) h).bind fun b h => .ok (!b) h
  | .and es, h => evAnd σ es h
  | .or es, h => evOr σ es h
  | .val c, h => (seen σ (evE σ c h)).bind fun u h => ofOpt (tru u) h
  | .cmp o a b, h => (evE σ a h).bind fun e h => (evE σ b h).bind fun e' h => ofOpt (see2 σ h e e' (cop o)) h
  | .chain o p a b c, h => (evE σ a h).bind fun e h => (evE σ b h).bind fun e' h => (ofOpt (see2 σ h e e' (cop o)) h).bind fun d h => (match d with
    | true => (evE σ c h).bind fun e'' h => ofOpt (see2 σ h e' e'' (cop p)) h
    | false => .ok false h)
  | .bv c, h => (evE σ c h).bind fun e h => (match e with
    | .fz (.bl b) => .ok b h
    | _ => .stuck)
def evTs (σ : Slots) : List CT → CH → Res Bool
  | [], h => .ok true h
  | c :: r, h => (evT σ c h).bind fun b h => (match b with
    | true => evTs σ r h
    | false => .ok false h)
def evAnd (σ : Slots) : List CT → CH → Res Bool
  | [], h => .ok true h
  | c :: r, h => (evT σ c h).bind fun b h => (match b with
    | true => evAnd σ r h
    | false => .ok false h)
def evOr (σ : Slots) : List CT → CH → Res Bool
  | [], h => .ok false h
  | c :: r, h => (evT σ c h).bind fun b h => (match b with
    | true => .ok true h
    | false => evOr σ r h)
/-- what is walked: its items; st: the walk is a for's (what a slot holds alone may then change) -/
def evI (st : Bool) (σ : Slots) : CI → CH → Res (List U)
  | .seq e, h => (evE σ e h).bind fun e h => ofOpt ((e.src st σ).bind itemsU) h
  | .range es, h => (evK σ es h).bind fun us h => ofOpt (rangeOf us) h
  | .enum e, h => (evE σ e h).bind fun e h => ofOpt ((e.src st σ).bind enumU) h
  | .zip es, h => (evEs σ es h).bind fun xs h => ofOpt ((srcs st σ xs).bind zipOf) h
  | .items e, h => .stuck
  | .values e, h => .stuck
  | .rev e, h => (evE σ e h).bind fun e h => ofOpt (((e.src st σ).bind itemsU).map List.reverse) h
def evEs (σ : Slots) : List CE → CH → Res (List E)
  | [], h => .ok [] h
  | c :: r, h => (evE σ c h).bind fun e h => (evEs σ r h).bind fun es h => .ok (e :: es) h
end
end
end Mi
namespace Mi
open PySem (Str)

inductive RS where
  | next (σ : Slots) (h : CH)
  | brk (σ : Slots) (h : CH)
  | cont (σ : Slots) (h : CH)
  | ret (e : E) (h : CH)
  | exc (c : Nm) (fs : List U) (σ : Slots) (h : CH)
  | stuck
def Res.st {α : Type} (σ : Slots) : Res α → (α → CH → RS) → RS
  | .ok a h, f => f a h
  | .exc c fs h, _ => .exc c fs σ h
  | .stuck, _ => .stuck
/-- a for's turns -/
def goFor (g : Tgt) (f : Slots → CH → RS) : List U → Slots → CH → RS
  | [], σ, h => .next σ h
  | x :: r, σ, h => match bindT g x σ with
    | none => .stuck
    | some σ1 => match f σ1 h with
      | .next σ2 h2 => goFor g f r σ2 h2
      | .cont σ2 h2 => goFor g f r σ2 h2
      | .brk σ2 h2 => .next σ2 h2
      | .ret e h2 => .ret e h2
      | .exc c fs σ2 h2 => .exc c fs σ2 h2
      | .stuck => .stuck
/-- a while's turns -/
def goWhile (c : Slots → CH → Res Bool) (f : Slots → CH → RS) : Nat → Slots → CH → RS
  | 0, _, _ => .stuck
  | n + 1, σ, h => (c σ h).st σ fun b h1 => match b with
    | false => .next σ h1
    | true => match f σ h1 with
      | .next σ2 h2 => goWhile c f n σ2 h2
      | .cont σ2 h2 => goWhile c f n σ2 h2
      | .brk σ2 h2 => .next σ2 h2
      | .ret e h2 => .ret e h2
      | .exc c fs σ2 h2 => .exc c fs σ2 h2
      | .stuck => .stuck
def setS (i : Nat) (x : Option Sl) (σ : Slots) (k : Slots → RS) : RS := if i < σ.length then k (σ.set i x) else .stuck
/-- what stands at a place is changed -/
def chg (σ : Slots) (h : CH) (e : E) (f : U → Option U) (k : Slots → CH → RS) : RS := match e with
  | .loc i => (match σ[i]? with
    | some (some (.own u)) => (match f u with
      | some u' => k (σ.set i (some (.own u'))) h
      | none => .stuck)
    | _ => .stuck)
  | .fz (.ref n) => (match h with
    | some xs => (match xs[n]? with
      | some u => (match f u with
        | some u' => k σ (some (xs.set n u'))
        | none => .stuck)
      | none => .stuck)
    | none => .stuck)
  | _ => .stuck
/-- i op= v: whole numbers alone -/
def augI : Bop → Int → U → Option Int
  | .add, a, .int b => some (a + b)
  | .sub, a, .int b => some (a - b)
  | _, _, _ => none
/-- the handler that takes an exception -/
def takes (T : Top) (c : Nm) (cs : List Nm) : Bool := cs.any fun d => decide (c = d) || (T.ups c).contains d
/-- the most turns of a while -/
def fuel : Nat := 100000000
section
variable (T : Top) (φ : Phi)
mutual
def ev1 : CS → Slots → CH → RS
  | .expr e, σ, h => (evE T φ σ e h).st σ fun _ h => .next σ h
  | .set i e, σ, h => (evE T φ σ e h).st σ fun r h => (r.keep h).st σ fun u h => setS i (some (.val u)) σ fun σ => .next σ h
  | .own i e, σ, h => (evE T φ σ e h).st σ fun r h => (match r with
    | .own u => setS i (some (.own u)) σ fun σ => .next σ h
    | _ => .stuck)
  | .put g e, σ, h => (evE T φ σ e h).st σ fun r h => (r.keep h).st σ fun u h => (match bindT g u σ with
    | some σ => .next σ h
    | none => .stuck)
  | .attr a o e, σ, h => (evE T φ σ e h).st σ fun r h => (r.keep h).st σ fun v h => (evE T φ σ o h).st σ fun x h =>
      chg σ h x (setFld T a v) fun σ h => .next σ h
  | .ix o i e, σ, h => (evE T φ σ e h).st σ fun r h => (r.keep h).st σ fun v h => (evE T φ σ o h).st σ fun x h => (evE T φ σ i h).st σ fun y h => (y.keep h).st σ fun k h =>
      chg σ h x (fun u => setIx u k v) fun σ h => .next σ h
  | .aug i p e, σ, h => (match σ[i]? with
    | some (some (.val (.int a))) => (seen σ (evE T φ σ e h)).st σ fun v h => (ofOpt (augI p a v) h).st σ fun c h => setS i (some (.val (.int c))) σ fun σ => .next σ h
    | _ => .stuck)
  | .augix o i p e, σ, h => (evE T φ σ o h).st σ fun x h => (evE T φ σ i h).st σ fun y h => (y.keep h).st σ fun k h => (ofOpt ((x.see σ h).bind fun u => getIx u k) h).st σ fun old h => (match old with
    | .int a => (seen σ (evE T φ σ e h)).st σ fun v h => (ofOpt (augI p a v) h).st σ fun c h => chg σ h x (fun u => setIx u k (.int c)) fun σ h => .next σ h
    | _ => .stuck)
  | .augattr a o p e, σ, h => (evE T φ σ o h).st σ fun x h => (ofOpt ((x.see σ h).bind fun u => getFld T a u) h).st σ fun old h => (match old with
    | .int b => (seen σ (evE T φ σ e h)).st σ fun v h => (ofOpt (augI p b v) h).st σ fun c h => chg σ h x (setFld T a (.int c)) fun σ h => .next σ h
    | _ => .stuck)
  | .ret e, σ, h => (evE T φ σ e h).st σ fun r h => (match r with
    | .loc _ => .stuck
    | r => .ret r h)
  | .retv i, σ, h => (match σ[i]? with
    | some (some (.own u)) => .ret (.own u) h
    | some (some (.val u)) => .ret (.fz u) h
    | _ => .stuck)
  | .ret0, _, h => .ret (.fz .non) h
  | .ite c a b, σ, h => (evT T φ σ c h).st σ fun d h => (match d with
    | true => evB a σ h
    | false => evB b σ h)
  | .for_ g it b, σ, h => (evI T φ true σ it h).st σ fun xs h => goFor g (fun σ h => evB b σ h) xs σ h
  | .while c b, σ, h => goWhile (fun σ h => evT T φ σ c h) (fun σ h => evB b σ h) fuel σ h
  | .brk, σ, h => .brk σ h
  | .cont, σ, h => .cont σ h
  | .pass, σ, h => .next σ h
  | .raise c es, σ, h => (evK T φ σ es h).st σ fun us h => .exc c us σ h
  | .try_ b hs, σ, h => (match evB b σ h with
    | .exc c fs σ1 h1 => evH hs c fs σ1 h1
    | r => r)
  | .mut d i m es, σ, h => (match evK T φ σ es h with
    | .ok us h => (match σ[i]? with
      | some (some (.own u)) => (match mmeth m u us with
        | some (r, u') => (match d with
          | none => .next (σ.set i (some (.own u'))) h
          | some d => setS d (some (.val r)) (σ.set i (some (.own u'))) fun σ => .next σ h)
        | none => .stuck)
      | _ => .stuck)
    | _ => .stuck)
  | .frz i, σ, h => (match σ[i]? with
    | some (some (.own u)) => .next (σ.set i (some (.val u))) h
    | some (some (.val u)) => .next σ h
    | _ => .stuck)
  | .share i, σ, h => (match σ[i]?, h with
    | some (some (.own u)), some xs => .next (σ.set i (some (.val (.ref xs.length)))) (some (xs ++ [u]))
    | _, _ => .stuck)
  | .lam i f caps, σ, h => .stuck
def evB : List CS → Slots → CH → RS
  | [], σ, h => .next σ h
  | s :: r, σ, h => match ev1 s σ h with
    | .next σ1 h1 => evB r σ1 h1
    | x => x
def evH : List CH1 → Nm → List U → Slots → CH → RS
  | [], c, fs, σ, h => .exc c fs σ h
  | .mk cs i b :: r, c, fs, σ, h => match takes T c cs with
    | true => (match i with
      | none => evB b σ h
      | some i => setS i (some (.val (.xc c fs))) σ fun σ1 => (match evB b σ1 h with
        | .next σ2 h2 => .next (σ2.set i none) h2
        | .brk σ2 h2 => .brk (σ2.set i none) h2
        | .cont σ2 h2 => .cont (σ2.set i none) h2
        | x => x))
    | false => evH r c fs σ h
end
end

/-- how instances of a class are: they no longer change once made; they are objects that change; exceptions -/
inductive CK where
  | own | shared | exc
  deriving DecidableEq
structure Prog extends Top where
  kind : Nm → CK
  defs : Fk → Option CDef
def args (d : CDef) (us : List U) : Slots := us.map (fun u => some (.val u)) ++ List.replicate (d.slots - us.length) none
def runDef (T : Top) (φ : Phi) (d : CDef) (us : List U) (h : CH) : Res E :=
  if us.length = d.params then
    match evB T φ d.body (args d us) h with
    | .next _ h => .ok (.fz .non) h
    | .ret e h => .ok e h
    | .exc c fs _ h => .exc c fs h
    | _ => .stuck
  else .stuck
/-- an instance is made: an own one -/
def runOwn (T : Top) (φ : Phi) (c : Nm) (d : CDef) (us : List U) (h : CH) : Res E :=
  if us.length + 1 = d.params then
    match evB T φ d.body (some (.own (.obj c [])) :: (us.map (fun u => some (.val u)) ++ List.replicate (d.slots - us.length - 1) none)) h with
    | .next (some (.own u) :: _) h => .ok (.own u) h
    | .exc c fs _ h => .exc c fs h
    | _ => .stuck
  else .stuck
def runShared (T : Top) (φ : Phi) (c : Nm) (d : CDef) (us : List U) (h : CH) : Res E := match h with
  | none => .stuck
  | some xs => if us.length + 1 = d.params then
    match evB T φ d.body (some (.val (.ref xs.length)) :: (us.map (fun u => some (.val u)) ++ List.replicate (d.slots - us.length - 1) none)) (some (xs ++ [.obj c []])) with
    | .next _ h => .ok (.fz (.ref xs.length)) h
    | .exc c fs _ h => .exc c fs h
    | _ => .stuck
  else .stuck
/-- calls, n deep -/
def phi (P : Prog) : Nat → Phi
  | 0 => fun _ _ _ => .stuck
  | n + 1 => fun k us h => match k with
    | .me c .n_init => (match P.kind c with
      | .exc => .ok (.fz (.xc c us)) h
      | .own => (match P.defs k with
        | some d => runOwn P.toTop (phi P n) c d us h
        | none => .stuck)
      | .shared => (match P.defs k with
        | some d => runShared P.toTop (phi P n) c d us h
        | none => .stuck))
    | k => (match P.defs k with
      | some d => runDef P.toTop (phi P n) d us h
      | none => .stuck)
example (T : Top) (φ : Phi) (σ : Slots) (h : CH) : evE T φ σ (.op .add (.int 1) (.int 2)) h = .ok (.fz (.int 3)) h := rfl
example (T : Top) (φ : Phi) (σ : Slots) (h : CH) : ev1 T φ (.ret (.op .add (.int 1) (.int 2))) σ h = .ret (.fz (.int 3)) h := rfl
end Mi
namespace Mi
open PySem PySem.Spec L2

/-- what ties the clean names to the text and the heap: names as texts, defs and classes at their addresses, fields -/
structure Glob where
  nm : Nm → Str
  ad : Fk → Addr
  cl : Nm → Addr
abbrev AP1 := Addr → Prop
/-- a list | a tuple of the written part -/
def KL (K : PySem.W.Frag) (a : Addr) (xs : List V) : Prop := ∃ (o : Obj) (its : Array Value) (n : Nat), K.lookup a = some o ∧ o.cls = .type "list" ∧ o.dict = none ∧ o.data = .seq its n ∧ its.size ≤ sizeLine ∧ Vals xs its.toList
def KT (K : PySem.W.Frag) (a : Addr) (xs : List V) : Prop := ∃ (o : Obj) (its : Array Value) (n : Nat), K.lookup a = some o ∧ o.cls = .type "tuple" ∧ o.data = .seq its n ∧ its.size ≤ sizeLine ∧ Vals xs its.toList
/-- it may be read for ever: nothing that may change stands there -/
def Fz (M : AP1) (H : Hp) (a : Addr) (u : HO) : Prop := ¬ M a ∧ Rd H a u
/-- a dict's key -/
def unK : Key → U
  | .inl i => .int i
  | .inr x => .str x
section
variable (K : PySem.W.Frag) (G : Glob) (lay : Nm → List Nm)
mutual
/-- the clean value u stands as v: cells at io, what may change at M -/
def Rep (io : List Addr) (M : AP1) (H : Hp) : U → V → Prop
  | .non, v => v = .non
  | .bl b, v => v = .bl b
  | .int i, v => v = .int i
  | .str x, v => v = .str x
  | .tup xs, v => ∃ a vs, v = .ref a ∧ (Fz M H a (.tup vs) ∨ KT K a vs) ∧ Reps io M H xs vs
  | .lst xs, v => ∃ a vs, v = .ref a ∧ Fz M H a (.lst vs) ∧ Reps io M H xs vs
  | .obj c fs, v => ∃ a dx fl vs, v = .ref a ∧ Fz M H a (.ins (G.cl c) dx fl) ∧ fl = (((lay c).map G.nm).zip vs) ∧ Reps io M H fs vs
  | .ref n, v => ∃ a, io[n]? = some a ∧ v = .ref a
  | .fn f, v => v = .ref (G.ad (.fn f))
  | .dct kvs, v => ∃ a l, v = .ref a ∧ Fz M H a (.dK l) ∧ RepD io M H kvs l
  | .xc _ _, _ => False
  | .clo _ _, _ => False
  | .scr ns, v => ∃ a, v = .ref a ∧ (Fz M H a (.lst (ns.map .int)) ∨ KL K a (ns.map .int))
def Reps (io : List Addr) (M : AP1) (H : Hp) : List U → List V → Prop
  | [], [] => True
  | u :: us, v :: vs => Rep io M H u v ∧ Reps io M H us vs
  | _, _ => False
def RepD (io : List Addr) (M : AP1) (H : Hp) : List (U × U) → List (Key × V) → Prop
  | [], [] => True
  | u :: us, v :: vs => RepP io M H u v ∧ RepD io M H us vs
  | _, _ => False
def RepP (io : List Addr) (M : AP1) (H : Hp) : U × U → Key × V → Prop
  | (k, u), (q, v) => k = unK q ∧ Rep io M H u v
end
/-- what stands at an address that may change -/
def Cont (io : List Addr) (M : AP1) (H : Hp) (u : U) (a : Addr) : Prop := match u with
  | .lst xs => ∃ vs, H a = some (.lst vs) ∧ Reps K G lay io M H xs vs
  | .obj c fs => ∃ dx fl vs, H a = some (.ins (G.cl c) dx fl) ∧ fl = (((lay c).map G.nm).zip vs) ∧ Reps K G lay io M H fs vs
  | .dct kvs => ∃ l, H a = some (.dK l) ∧ RepD K G lay io M H kvs l
  | _ => False
end
def Keep (W : AP1) (H H' : Hp) : Prop := ∀ b o, H b = some o → ¬ W b → H' b = some o
/-- the cells that may be written -/
def wr (h : CH) (io : List Addr) : AP1 := fun b => match h with
  | some _ => b ∈ io
  | none => False
/-- from one state to a later one -/
structure Ext (h : CH) (io : List Addr) (M : AP1) (H : Hp) (h' : CH) (io' : List Addr) (M' : AP1) (H' : Hp) : Prop where
  pre : ∃ s, io' = io ++ s ∧ ∀ b ∈ s, H b = none
  keep : Keep (wr h io) H H'
  mx : ∀ b, M' b → M b ∨ H b = none
  on : h.isSome = h'.isSome
  stay : ∀ b o, H b = some o → ∃ o', H' b = some o'
section
variable {h h1 h2 : CH} {io io1 io2 : List Addr} {M M1 M2 : AP1} {H H1 H2 : Hp}
theorem Ext.refl : Ext h io M H h io M H := ⟨⟨[], by simp, by simp⟩, fun _ _ e _ => e, fun _ m => .inl m, rfl, fun b o e => ⟨o, e⟩⟩
theorem Ext.none_of (x : Ext h io M H h1 io1 M1 H1) {b : Addr} (e : H1 b = none) : H b = none := by
  cases q : H b with
  | none => rfl
  | some o =>
    obtain ⟨o', q'⟩ := x.stay b o q
    rw [e] at q'; cases q'
theorem Ext.trans (x : Ext h io M H h1 io1 M1 H1) (y : Ext h1 io1 M1 H1 h2 io2 M2 H2) : Ext h io M H h2 io2 M2 H2 where
  pre := by
    obtain ⟨s, e, f⟩ := x.pre
    obtain ⟨s', e', f'⟩ := y.pre
    refine ⟨s ++ s', by rw [e', e, List.append_assoc], fun b hb => ?_⟩
    rcases List.mem_append.mp hb with q | q
    · exact f b q
    · exact x.none_of (f' b q)
  keep := fun b o e nw => by
    refine y.keep b o (x.keep b o e nw) fun w => nw ?_
    have hon := x.on
    cases h with
    | none =>
      cases h1 with
      | none => exact w
      | some _ => cases hon
    | some _ =>
      cases h1 with
      | none => cases hon
      | some _ =>
        obtain ⟨s, e1, f⟩ := x.pre
        have w' : b ∈ io1 := w
        rw [e1] at w'
        rcases List.mem_append.mp w' with q | q
        · exact q
        · rw [f b q] at e; cases e
  mx := fun b m => by
    rcases y.mx b m with q | q
    · exact x.mx b q
    · exact .inr (x.none_of q)
  on := x.on.trans y.on
  stay := fun b o e => by
    obtain ⟨o', e'⟩ := x.stay b o e
    exact y.stay b o' e'
end
/-- how a state goes on for what it holds -/
structure Mo (io : List Addr) (M : AP1) (H : Hp) (io' : List Addr) (M' : AP1) (H' : Hp) : Prop where
  pre : ∃ s, io' = io ++ s
  keep : ∀ b o, H b = some o → ¬ M b → H' b = some o
  mx : ∀ b, M' b → M b ∨ H b = none
section
variable {K : PySem.W.Frag} {G : Glob} {lay : Nm → List Nm} {h h' : CH} {io io' : List Addr} {M M' : AP1} {H H' : Hp} {a : Addr} {u : HO}
theorem Ext.mo (x : Ext h io M H h' io' M' H') (sub : ∀ b ∈ io, M b) : Mo io M H io' M' H' := by
  obtain ⟨s, e, _⟩ := x.pre
  refine ⟨⟨s, e⟩, fun b o q nm => x.keep b o q fun w => nm ?_, x.mx⟩
  cases h with
  | none => exact False.elim w
  | some _ => exact sub b w
theorem Mo.refl : Mo io M H io M H := ⟨⟨[], by simp⟩, fun _ _ e _ => e, fun _ m => .inl m⟩
theorem Mo.fewer (h : ∀ b, M' b → M b) : Mo io M H io M' H := ⟨⟨[], by simp⟩, fun _ _ e _ => e, fun b m => .inl (h b m)⟩
theorem Rd_some {H : Hp} (r : Rd H a u) : ∃ o, H a = some o := by
  rcases r with r | ⟨o, r⟩
  · exact ⟨_, r⟩
  · exact ⟨_, r⟩
theorem Fz.mo (m : Mo io M H io' M' H') (x : Fz M H a u) : Fz M' H' a u := by
  obtain ⟨nm, r⟩ := x
  refine ⟨fun q => ?_, ?_⟩
  · rcases m.mx a q with z | z
    · exact nm z
    · obtain ⟨o, e⟩ := Rd_some r
      rw [z] at e; cases e
  · rcases r with r | ⟨o, r⟩
    · exact .inl (m.keep _ _ r nm)
    · exact .inr ⟨o, m.keep _ _ r nm⟩
mutual
theorem Rep.mo (m : Mo io M H io' M' H') : ∀ {u : U} {v : V}, Rep K G lay io M H u v → Rep K G lay io' M' H' u v
  | .non, _, h => by simpa only [Rep] using h
  | .bl _, _, h => by simpa only [Rep] using h
  | .int _, _, h => by simpa only [Rep] using h
  | .str _, _, h => by simpa only [Rep] using h
  | .tup xs, _, h => by
    simp only [Rep] at h ⊢
    obtain ⟨a, vs, e, f, r⟩ := h
    exact ⟨a, vs, e, f.imp (fun f => f.mo m) id, Reps.mo m r⟩
  | .lst xs, _, h => by
    simp only [Rep] at h ⊢
    obtain ⟨a, vs, e, f, r⟩ := h
    exact ⟨a, vs, e, f.mo m, Reps.mo m r⟩
  | .obj c fs, _, h => by
    simp only [Rep] at h ⊢
    obtain ⟨a, dx, fl, vs, e, f, q, r⟩ := h
    exact ⟨a, dx, fl, vs, e, f.mo m, q, Reps.mo m r⟩
  | .ref n, _, h => by
    simp only [Rep] at h ⊢
    obtain ⟨a, e, r⟩ := h
    obtain ⟨s, rfl⟩ := m.pre
    refine ⟨a, ?_, r⟩
    rw [List.getElem?_append_left (List.getElem?_eq_some_iff.mp e).1]
    exact e
  | .fn _, _, h => by simpa only [Rep] using h
  | .dct kvs, _, h => by
    simp only [Rep] at h ⊢
    obtain ⟨a, l, e, f, r⟩ := h
    exact ⟨a, l, e, f.mo m, RepD.mo m r⟩
  | .xc _ _, _, h => by simp only [Rep] at h
  | .clo _ _, _, h => by simp only [Rep] at h
  | .scr ns, _, h => by
    simp only [Rep] at h ⊢
    obtain ⟨a, e, f⟩ := h
    exact ⟨a, e, f.imp (fun f => f.mo m) id⟩
theorem Reps.mo (m : Mo io M H io' M' H') : ∀ {us : List U} {vs : List V}, Reps K G lay io M H us vs → Reps K G lay io' M' H' us vs
  | [], [], _ => by simp only [Reps]
  | u :: us, v :: vs, h => by
    simp only [Reps] at h ⊢
    exact ⟨Rep.mo m h.1, Reps.mo m h.2⟩
  | [], _ :: _, h => by simp only [Reps] at h
  | _ :: _, [], h => by simp only [Reps] at h
theorem RepD.mo (m : Mo io M H io' M' H') : ∀ {us : List (U × U)} {vs : List (Key × V)}, RepD K G lay io M H us vs → RepD K G lay io' M' H' us vs
  | [], [], _ => by simp only [RepD]
  | u :: us, v :: vs, h => by
    simp only [RepD] at h ⊢
    exact ⟨RepP.mo m h.1, RepD.mo m h.2⟩
  | [], _ :: _, h => by simp only [RepD] at h
  | _ :: _, [], h => by simp only [RepD] at h
theorem RepP.mo (m : Mo io M H io' M' H') : ∀ {u : U × U} {v : Key × V}, RepP K G lay io M H u v → RepP K G lay io' M' H' u v
  | (k, u), (q, v), h => by
    simp only [RepP] at h ⊢
    exact ⟨h.1, Rep.mo m h.2⟩
end
theorem Cont.mo (m : Mo io M H io' M' H') {u : U} (x : Cont K G lay io M H u a) (k : ∀ o, H a = some o → H' a = some o) : Cont K G lay io' M' H' u a := by
  cases u with
  | lst xs =>
    obtain ⟨vs, e, r⟩ := x
    exact ⟨vs, k _ e, r.mo m⟩
  | obj c fs =>
    obtain ⟨dx, fl, vs, e, q, r⟩ := x
    exact ⟨dx, fl, vs, k _ e, q, r.mo m⟩
  | dct kvs =>
    obtain ⟨l, e, r⟩ := x
    exact ⟨l, k _ e, r.mo m⟩
  | _ => exact False.elim x
/-- what no longer changes may be held -/
theorem Cont.rep {u : U} (x : Cont K G lay io M H u a) (nm : ¬ M' a) (m : ∀ b, M' b → M b) : Rep K G lay io M' H u (.ref a) := by
  have mo : Mo io M H io M' H := Mo.fewer m
  cases u with
  | lst xs =>
    obtain ⟨vs, e, r⟩ := x
    simp only [Rep]
    exact ⟨a, vs, rfl, ⟨nm, .inl e⟩, r.mo mo⟩
  | obj c fs =>
    obtain ⟨dx, fl, vs, e, q, r⟩ := x
    simp only [Rep]
    exact ⟨a, dx, fl, vs, rfl, ⟨nm, .inl e⟩, q, r.mo mo⟩
  | dct kvs =>
    obtain ⟨l, e, r⟩ := x
    simp only [Rep]
    exact ⟨a, l, rfl, ⟨nm, .inl e⟩, r.mo mo⟩
  | _ => exact False.elim x
theorem Cont.some_ {u : U} (x : Cont K G lay io M H u a) : ∃ o, H a = some o := by
  cases u with
  | lst xs =>
    obtain ⟨vs, e, r⟩ := x
    exact ⟨_, e⟩
  | obj c fs =>
    obtain ⟨dx, fl, vs, e, q, r⟩ := x
    exact ⟨_, e⟩
  | dct kvs =>
    obtain ⟨l, e, r⟩ := x
    exact ⟨_, e⟩
  | _ => exact False.elim x
theorem Reps.length : ∀ {us : List U} {vs : List V}, Reps K G lay io M H us vs → us.length = vs.length
  | [], [], _ => rfl
  | u :: us, v :: vs, h => by
    simp only [Reps] at h
    simp [Reps.length h.2]
  | [], _ :: _, h => by simp only [Reps] at h
  | _ :: _, [], h => by simp only [Reps] at h
theorem Reps.get : ∀ {us : List U} {vs : List V} {i : Nat} {u : U}, Reps K G lay io M H us vs → us[i]? = some u → ∃ v, vs[i]? = some v ∧ Rep K G lay io M H u v
  | [], [], _, _, _, e => by simp at e
  | u :: us, v :: vs, 0, w, h, e => by
    simp only [Reps] at h
    simp at e; subst e
    exact ⟨v, by simp, h.1⟩
  | u :: us, v :: vs, i + 1, w, h, e => by
    simp only [Reps] at h
    obtain ⟨x, q, r⟩ := Reps.get (i := i) h.2 (by simpa using e)
    exact ⟨x, by simpa using q, r⟩
  | [], _ :: _, _, _, h, _ => by simp only [Reps] at h
  | _ :: _, [], _, _, h, _ => by simp only [Reps] at h
theorem Reps.append : ∀ {us ws : List U} {vs xs : List V}, Reps K G lay io M H us vs → Reps K G lay io M H ws xs → Reps K G lay io M H (us ++ ws) (vs ++ xs)
  | [], _, [], _, _, h => h
  | u :: us, ws, v :: vs, xs, h, k => by
    simp only [Reps] at h
    simp only [List.cons_append, Reps]
    exact ⟨h.1, Reps.append h.2 k⟩
  | [], _, _ :: _, _, h, _ => by simp only [Reps] at h
  | _ :: _, _, [], _, h, _ => by simp only [Reps] at h
theorem Reps.set {u : U} {v : V} (r : Rep K G lay io M H u v) : ∀ {us : List U} {vs : List V} (i : Nat), Reps K G lay io M H us vs → Reps K G lay io M H (us.set i u) (vs.set i v)
  | [], [], _, h => by simpa using h
  | _ :: us, _ :: vs, 0, h => by
    simp only [Reps] at h
    simp only [List.set_cons_zero, Reps]
    exact ⟨r, h.2⟩
  | _ :: us, _ :: vs, i + 1, h => by
    simp only [Reps] at h
    simp only [List.set_cons_succ, Reps]
    exact ⟨h.1, Reps.set r i h.2⟩
  | [], _ :: _, _, h => by simp only [Reps] at h
  | _ :: _, [], _, h => by simp only [Reps] at h
theorem Reps.drop : ∀ {us : List U} {vs : List V} (n : Nat), Reps K G lay io M H us vs → Reps K G lay io M H (us.drop n) (vs.drop n)
  | _, _, 0, h => h
  | [], [], _ + 1, h => by simpa using h
  | _ :: us, _ :: vs, n + 1, h => by
    simp only [Reps] at h
    simpa using Reps.drop n h.2
  | [], _ :: _, _ + 1, h => by simp only [Reps] at h
  | _ :: _, [], _ + 1, h => by simp only [Reps] at h
theorem Reps.take : ∀ {us : List U} {vs : List V} (n : Nat), Reps K G lay io M H us vs → Reps K G lay io M H (us.take n) (vs.take n)
  | _, _, 0, h => by simp [Reps]
  | [], [], _ + 1, h => by simpa using h
  | _ :: us, _ :: vs, n + 1, h => by
    simp only [Reps] at h
    simp only [List.take_succ_cons, Reps]
    exact ⟨h.1, Reps.take n h.2⟩
  | [], _ :: _, _ + 1, h => by simp only [Reps] at h
  | _ :: _, [], _ + 1, h => by simp only [Reps] at h
theorem Reps.map_int : ∀ {ns : List Int} {vs : List V}, Reps K G lay io M H (ns.map .int) vs → vs = ns.map .int
  | [], [], _ => rfl
  | n :: ns, v :: vs, h => by
    simp only [List.map_cons, Reps] at h
    obtain ⟨h1, h2⟩ := h
    simp only [Rep] at h1
    rw [h1, Reps.map_int h2]; rfl
  | [], _ :: _, h => by simp only [List.map_nil, Reps] at h
  | _ :: _, [], h => by simp only [List.map_cons, Reps] at h
/-- a new object may be added: nothing that is held changes -/
theorem Mo.newF {p : Addr} {o : HO} (hp : H p = none) : Mo io M H io M (upd H p o) :=
  ⟨⟨[], by simp⟩, fun b o' e _ => by rw [upd_ne (by rintro rfl; rw [hp] at e; cases e)]; exact e, fun _ m => .inl m⟩
end
end Mi
namespace Mi
open PySem PySem.Spec L2

/-- a state: cells, what may change, the clean heap, the tracked one -/
structure S0 where
  io : List Addr
  M : AP1
  h : CH
  H : Hp
def ExtS (s t : S0) : Prop := Ext s.h s.io s.M s.H t.h t.io t.M t.H
/-- what is fixed while a def's body runs: the written part, names, fields; what is barred; the heap at its entry -/
structure Fx where
  K : PySem.W.Frag
  G : Glob
  T : Top
  B : AP1
  H0 : Hp
  cv : List Nat := []
section
variable (F : Fx)
abbrev Fx.rep (F : Fx) (s : S0) : U → V → Prop := Rep F.K F.G F.T.lay s.io s.M s.H
abbrev Fx.reps (F : Fx) (s : S0) : List U → List V → Prop := Reps F.K F.G F.T.lay s.io s.M s.H
abbrev Fx.cont (F : Fx) (s : S0) : U → Addr → Prop := Cont F.K F.G F.T.lay s.io s.M s.H
structure HRel (s : S0) : Prop where
  dom : ∀ b, s.M b → ∃ o, s.H b = some o
  sub : ∀ b, F.B b → s.M b
  iot : ∀ b ∈ s.io, s.M b ∧ ¬ F.B b
  nd : s.io.Nodup
  hp : ∀ xs, s.h = some xs → xs.length = s.io.length ∧ ∀ (n : Nat) u a, xs[n]? = some u → s.io[n]? = some a → F.cont s u a
structure SRel (s : S0) (z : Slots) (σ : L2.St) : Prop where
  len : z.length = σ.length
  val : ∀ (i : Nat) u, z[i]? = some (some (.val u)) → ∃ v, σ[i]? = some (some v) ∧ F.rep s u v
  own : ∀ (i : Nat) u, z[i]? = some (some (.own u)) → ∃ a, σ[i]? = some (some (.ref a)) ∧ F.cont s u a ∧ s.M a ∧ ¬ F.B a ∧ a ∉ s.io ∧ F.H0 a = none
  nc : ∀ (i : Nat) u, z[i]? = some (some (.own u)) → i ∉ F.cv
  sep : ∀ (i j : Nat) u w a, z[i]? = some (some (.own u)) → z[j]? = some (some (.own w)) → σ[i]? = some (some (.ref a)) → σ[j]? = some (some (.ref a)) → i = j
structure Ok (s : S0) (z : Slots) (σ : L2.St) : Prop where
  hr : HRel F s
  sr : SRel F s z σ
/-- a result stands as v; t: the state ahead -/
def RepE (z : Slots) (σ : L2.St) (t s : S0) (e : E) (v : V) : Prop := match e with
  | .fz u => F.rep s u v
  | .own u => ∃ a, v = .ref a ∧ F.cont s u a ∧ s.M a ∧ ¬ F.B a ∧ a ∉ s.io ∧ t.H a = none
  | .loc i => σ[i]? = some (some v) ∧ ∃ u, z[i]? = some (some (.own u))
def RepU (t s : S0) (u : U) (v : V) : Prop := F.rep s u v
def RepUs (t s : S0) (us : List U) (vs : List V) : Prop := F.reps s us vs
def RepB (t s : S0) (b c : Bool) : Prop := b = c
/-- an exception's own dict -/
def XAt (s : S0) (c : Nm) (fs : List U) (d : Addr) : Prop := ∃ vs, s.H d = some (.xd (((F.T.lay c).map F.G.nm).zip vs)) ∧ F.reps s fs vs
/-- what a run's end is to give -/
def Post {α β : Type} (z : Slots) (σ : L2.St) (W : WX) (t : S0) (R : S0 → S0 → α → β → Prop) (Q : β → Hp → Prop) (r : Res α) : Prop := match r with
  | .ok a h' => ∀ s v, s.h = h' → ExtS t s → Ok F s z σ → R t s a v → Q v s.H
  | .exc c fs h' => ∀ s d, s.h = h' → ExtS t s → Ok F s z σ → XAt F s c fs d → W (.ref (F.G.cl c)) (some d) σ s.H
  | .stuck => False
end
section
variable {F : Fx} {z : Slots} {σ : L2.St} {W : WX} {t s : S0}
theorem ExtS.refl : ExtS t t := Ext.refl
theorem ExtS.trans {u : S0} (x : ExtS t s) (y : ExtS s u) : ExtS t u := Ext.trans x y
theorem ExtS.mo (x : ExtS t s) (h : HRel F t) : Mo t.io t.M t.H s.io s.M s.H := Ext.mo x fun b hb => (h.iot b hb).1
theorem ExtS.rep (x : ExtS t s) (h : HRel F t) {u : U} {v : V} (r : F.rep t u v) : F.rep s u v := Rep.mo (x.mo h) r
theorem ExtS.reps (x : ExtS t s) (h : HRel F t) {u : List U} {v : List V} (r : F.reps t u v) : F.reps s u v := Reps.mo (x.mo h) r
theorem RepE.from {z : Slots} {σ : L2.St} {t t1 s : S0} {e : E} {v : V} (x : ExtS t t1) (r : RepE F z σ t1 s e v) : RepE F z σ t s e v := by
  cases e with
  | fz u => exact r
  | own u =>
    obtain ⟨a, e, c, m, b, i, n⟩ := r
    exact ⟨a, e, c, m, b, i, x.none_of n⟩
  | loc i => exact r
/-- a state later than t, at which a run goes on -/
structure At (F : Fx) (z : Slots) (σ : L2.St) (t s : S0) : Prop where
  ext : ExtS t s
  ok : Ok F s z σ
theorem Post.bind {α β γ δ : Type} {R : S0 → S0 → α → β → Prop} {R2 : S0 → S0 → γ → δ → Prop} {Q : δ → Hp → Prop} {r : Res α} {f : α → CH → Res γ}
    (mono : ∀ t t1 s a v, ExtS t t1 → R2 t1 s a v → R2 t s a v) (h : Post F z σ W t R2 Q (r.bind f)) :
    Post F z σ W t R (fun v H1 => ∃ s a, s.H = H1 ∧ At F z σ t s ∧ R t s a v ∧ Post F z σ W s R2 Q (f a s.h)) r := by
  cases r with
  | ok a h' =>
    intro s v e x ok rv
    refine ⟨s, a, rfl, ⟨x, ok⟩, rv, ?_⟩
    subst e
    have h1 : Post F z σ W t R2 Q (f a s.h) := h
    revert h1
    generalize f a s.h = q
    cases q with
    | ok c h2 => exact fun h1 s2 w e2 x2 ok2 r2 => h1 s2 w e2 (x.trans x2) ok2 (mono _ _ _ _ _ x r2)
    | exc c fs h2 => exact fun h1 s2 d e2 x2 ok2 r2 => h1 s2 d e2 (x.trans x2) ok2 r2
    | stuck => exact fun h1 => h1
  | exc c fs h' => exact h
  | stuck => exact h
theorem Post.opt {α γ β : Type} {R2 : S0 → S0 → γ → β → Prop} {Q : β → Hp → Prop} {o : Option α} {f : α → CH → Res γ} {h : CH} (p : Post F z σ W t R2 Q ((ofOpt o h).bind f)) : ∃ a, o = some a ∧ Post F z σ W t R2 Q (f a h) := by
  cases o with
  | none => exact False.elim p
  | some a => exact ⟨a, rfl, p⟩
theorem Post.opt1 {α β : Type} {R2 : S0 → S0 → α → β → Prop} {Q : β → Hp → Prop} {o : Option α} {h : CH} (p : Post F z σ W t R2 Q (ofOpt o h)) : ∃ a, o = some a ∧ Post F z σ W t R2 Q (.ok a h) := by
  cases o with
  | none => exact False.elim p
  | some a => exact ⟨a, rfl, p⟩
theorem Post.imp {α β : Type} {R : S0 → S0 → α → β → Prop} {Q Q' : β → Hp → Prop} {r : Res α} (h : Post F z σ W t R Q r) (hq : ∀ v H, Q v H → Q' v H) : Post F z σ W t R Q' r := by
  cases r with
  | ok a h' => exact fun s v e x ok r => hq _ _ (h s v e x ok r)
  | exc c fs h' => exact h
  | stuck => exact h
/-- something more may be drawn from a result -/
theorem Post.more {α β : Type} {R R' : S0 → S0 → α → β → Prop} {Q : β → Hp → Prop} {r : Res α} (h : Post F z σ W t R Q r) (hr : ∀ s a v, At F z σ t s → R' t s a v → R t s a v) : Post F z σ W t R' Q r := by
  cases r with
  | ok a h' => exact fun s v e x ok r => h s v e x ok (hr s a v ⟨x, ok⟩ r)
  | exc c fs h' => exact h
  | stuck => exact h
/-- nothing was done -/
theorem Post.here {α β : Type} {R : S0 → S0 → α → β → Prop} {Q : β → Hp → Prop} {a : α} {v : β} (h : Post F z σ W t R Q (.ok a t.h)) (ok : Ok F t z σ) (r : R t t a v) : Q v t.H := h t v rfl ExtS.refl ok r

/-! ### steps of a state -/
theorem HRel.newF (h : HRel F t) {p : Addr} {o : HO} (hp : t.H p = none) : HRel F { t with H := upd t.H p o } where
  dom := fun b m => by
    obtain ⟨o', e⟩ := h.dom b m
    refine ⟨o', ?_⟩
    show L2.upd t.H p o b = some o'
    rw [upd_ne (by rintro rfl; rw [hp] at e; cases e)]; exact e
  sub := h.sub
  iot := h.iot
  nd := h.nd
  hp := fun xs e => by
    obtain ⟨l, q⟩ := h.hp xs e
    refine ⟨l, fun n u a e1 e2 => (q n u a e1 e2).mo (Mo.newF hp) fun o' e3 => ?_⟩
    show L2.upd t.H p o a = some o'
    rw [upd_ne (by rintro rfl; rw [hp] at e3; cases e3)]; exact e3
theorem SRel.mo (x : SRel F t z σ) (h : HRel F t) (m : Mo t.io t.M t.H s.io s.M s.H) (hm : ∀ b, t.M b → ¬ F.B b → b ∉ t.io → s.M b ∧ b ∉ s.io) (k : ∀ b o, t.H b = some o → b ∉ t.io → s.H b = some o) : SRel F s z σ where
  len := x.len
  val := fun i u e => by
    obtain ⟨v, q, r⟩ := x.val i u e
    exact ⟨v, q, Rep.mo m r⟩
  own := fun i u e => by
    obtain ⟨a, q, c, ma, b, n, f⟩ := x.own i u e
    obtain ⟨m1, n1⟩ := hm a ma b n
    exact ⟨a, q, c.mo m (fun o e => k a o e n), m1, b, n1, f⟩
  nc := x.nc
  sep := x.sep
theorem Ok.newF (h : Ok F t z σ) {p : Addr} {o : HO} (hp : t.H p = none) : Ok F { t with H := upd t.H p o } z σ :=
  ⟨h.hr.newF hp, h.sr.mo (s := { t with H := L2.upd t.H p o }) h.hr (Mo.newF hp) (fun b m _ n => ⟨m, n⟩) fun b o' e _ => by
    show L2.upd t.H p o b = some o'
    rw [upd_ne (by rintro rfl; rw [hp] at e; cases e)]; exact e⟩
theorem ExtS.newF {p : Addr} {o : HO} (hp : t.H p = none) : ExtS t { t with H := upd t.H p o } :=
  ⟨⟨[], by simp, by simp⟩, fun b o' e _ => by
    show L2.upd t.H p o b = some o'
    rw [upd_ne (by rintro rfl; rw [hp] at e; cases e)]; exact e, fun _ m => .inl m, rfl, fun b o' e => ⟨o', by
    show L2.upd t.H p o b = some o'
    rw [upd_ne (by rintro rfl; rw [hp] at e; cases e)]; exact e⟩⟩
theorem HRel.fresh (h : HRel F t) {p : Addr} (hp : t.H p = none) : ¬ t.M p := fun m => by
  obtain ⟨o, e⟩ := h.dom p m
  rw [hp] at e; cases e
/-- a new object that may change: it is barred from what is held -/
theorem HRel.updM (h : HRel F t) {p : Addr} {o : HO} (hp : t.H p = none) : HRel F { t with H := upd t.H p o, M := fun b => t.M b ∨ b = p } where
  dom := fun b m => by
    rcases m with m | rfl
    · obtain ⟨o', e⟩ := h.dom b m
      refine ⟨o', ?_⟩
      show L2.upd t.H p o b = some o'
      rw [upd_ne (by rintro rfl; rw [hp] at e; cases e)]; exact e
    · exact ⟨o, upd_same⟩
  sub := fun b m => .inl (h.sub b m)
  iot := fun b m => ⟨.inl (h.iot b m).1, (h.iot b m).2⟩
  nd := h.nd
  hp := fun xs e => by
    obtain ⟨l, q⟩ := h.hp xs e
    refine ⟨l, fun n u a e1 e2 => (q n u a e1 e2).mo ⟨⟨[], by simp⟩, ?_, ?_⟩ fun o' e3 => ?_⟩
    · intro b o' e4 _
      show L2.upd t.H p o b = some o'
      rw [upd_ne (by rintro rfl; rw [hp] at e4; cases e4)]; exact e4
    · rintro b (m | rfl)
      · exact .inl m
      · exact .inr hp
    · show L2.upd t.H p o a = some o'
      rw [upd_ne (by rintro rfl; rw [hp] at e3; cases e3)]; exact e3
theorem Mo.updM {io : List Addr} {M : AP1} {H : Hp} {p : Addr} {o : HO} (hp : H p = none) : Mo io M H io (fun b => M b ∨ b = p) (upd H p o) :=
  ⟨⟨[], by simp⟩, fun b o' e _ => by rw [upd_ne (by rintro rfl; rw [hp] at e; cases e)]; exact e, fun b m => by
    rcases m with m | rfl
    · exact .inl m
    · exact .inr hp⟩
theorem Ok.updM (h : Ok F t z σ) {p : Addr} {o : HO} (hp : t.H p = none) : Ok F { t with H := upd t.H p o, M := fun b => t.M b ∨ b = p } z σ :=
  ⟨h.hr.updM hp, h.sr.mo (s := { t with H := L2.upd t.H p o, M := fun b => t.M b ∨ b = p }) h.hr (Mo.updM hp) (fun b m _ n => ⟨.inl m, n⟩) fun b o' e _ => by
    show L2.upd t.H p o b = some o'
    rw [upd_ne (by rintro rfl; rw [hp] at e; cases e)]; exact e⟩
theorem ExtS.updM {p : Addr} {o : HO} (hp : t.H p = none) : ExtS t { t with H := upd t.H p o, M := fun b => t.M b ∨ b = p } :=
  ⟨⟨[], by simp, by simp⟩, fun b o' e _ => by
    show L2.upd t.H p o b = some o'
    rw [upd_ne (by rintro rfl; rw [hp] at e; cases e)]; exact e, fun b m => by
    rcases m with m | rfl
    · exact .inl m
    · exact .inr hp, rfl, fun b o' e => ⟨o', by
    show L2.upd t.H p o b = some o'
    rw [upd_ne (by rintro rfl; rw [hp] at e; cases e)]; exact e⟩⟩
/-- a state whose barred addresses are fewer: what is no longer to change -/
theorem HRel.drop (h : HRel F t) {a : Addr} (hb : ¬ F.B a) (hi : a ∉ t.io) : HRel F { t with M := fun b => t.M b ∧ b ≠ a } where
  dom := fun b m => h.dom b m.1
  sub := fun b m => ⟨h.sub b m, by rintro rfl; exact hb m⟩
  iot := fun b m => ⟨⟨(h.iot b m).1, by rintro rfl; exact hi m⟩, (h.iot b m).2⟩
  nd := h.nd
  hp := fun xs e => by
    obtain ⟨l, q⟩ := h.hp xs e
    exact ⟨l, fun n u a e1 e2 => (q n u a e1 e2).mo (Mo.fewer fun b m => m.1) fun o e => e⟩
theorem Ok.drop (h : Ok F t z σ) {a : Addr} (hb : ¬ F.B a) (hi : a ∉ t.io) (ho : ∀ (i : Nat) u, z[i]? = some (some (.own u)) → σ[i]? ≠ some (some (.ref a))) : Ok F { t with M := fun b => t.M b ∧ b ≠ a } z σ where
  hr := h.hr.drop hb hi
  sr := {
    len := h.sr.len
    val := fun i u e => by
      obtain ⟨v, q, r⟩ := h.sr.val i u e
      exact ⟨v, q, Rep.mo (Mo.fewer fun b m => m.1) r⟩
    own := fun i u e => by
      obtain ⟨c, q, r, m, b, n, f⟩ := h.sr.own i u e
      exact ⟨c, q, r.mo (Mo.fewer fun b m => m.1) (fun o e => e), ⟨m, by rintro rfl; exact ho i u e q⟩, b, n, f⟩
    nc := h.sr.nc
    sep := h.sr.sep }
theorem ExtS.drop {a : Addr} : ExtS t { t with M := fun b => t.M b ∧ b ≠ a } := ⟨⟨[], by simp, by simp⟩, fun _ _ e _ => e, fun b m => .inl m.1, rfl, fun b o e => ⟨o, e⟩⟩
/-- what a state ahead holds in its slots is no new object -/
theorem Ok.own_ne (h : Ok F t z σ) {a : Addr} (ha : t.H a = none) (i : Nat) (u : U) (e : z[i]? = some (some (.own u))) : σ[i]? ≠ some (some (.ref a)) := fun q => by
  obtain ⟨c, q', _, m, _⟩ := h.sr.own i u e
  rw [q] at q'; cases q'
  obtain ⟨o, e'⟩ := h.hr.dom _ m
  rw [ha] at e'; cases e'
/-- a result is kept: what it is stands as v, at a state that differs in what may change alone -/
theorem RepE.keep {e : E} {v : V} {s : S0} (okt : Ok F t z σ) (a : At F z σ t s) (r : RepE F z σ t s e v) {u : U} {h : CH} (k : e.keep s.h = .ok u h) : ∃ s', s'.H = s.H ∧ s'.h = s.h ∧ At F z σ t s' ∧ F.rep s' u v := by
  cases e with
  | fz w =>
    cases k
    exact ⟨s, rfl, rfl, a, r⟩
  | own w =>
    cases k
    obtain ⟨p, rfl, c, m, b, i, n⟩ := r
    refine ⟨{ s with M := fun b => s.M b ∧ b ≠ p }, rfl, rfl, ⟨a.ext.trans ExtS.drop, a.ok.drop b i fun j w e => ?_⟩, c.rep (fun m => m.2 rfl) fun b m => m.1⟩
    exact okt.own_ne n j w e
  | loc i => cases k
end
end Mi
namespace Mi
open PySem PySem.Spec L2

/-- a def's, a block's names -/
structure ME where
  N : List Str
  sc : Scope
  fn : Str → Bool
  cv : List Nat
def kd (m : ME) (x : Str) : Option NameKind := m.sc.names.lookup x
def visB (m : ME) (i : Nat) (x : Str) : Bool := decide (m.N[i]? = some x) && (decide (kd m x = some .local) || decide (kd m x = some .cell) || decide (kd m x = some .free)) && !(x == ("__debug__" : Str)) && !(x == ("__classdict__" : Str))
def glB (m : ME) (x : Str) : Bool := decide (kd m x = some .globalImplicit) && !(x == ("__debug__" : Str))
def locB (m : ME) (i : Nat) (x : Str) : Bool := decide (m.N[i]? = some x) && (decide (kd m x = some .local) || (decide (kd m x = some .cell) && m.fn x))
def bopB : Bop → Operator → Bool
  | .add, .Add => true
  | .sub, .Sub => true
  | .mul, .Mult => true
  | .mod, .Mod => true
  | .fdiv, .FloorDiv => true
  | .pow, .Pow => true
  | .band, .BitAnd => true
  | .shr, .RShift => true
  | _, _ => false
def copB : Cop → CmpOp → Bool
  | .eq, .Eq => true
  | .ne, .NotEq => true
  | .lt, .Lt => true
  | .le, .LtE => true
  | .gt, .Gt => true
  | .ge, .GtE => true
  | .is_, .Is => true
  | .isnot, .IsNot => true
  | .in_, .In => true
  | .notin, .NotIn => true
  | _, _ => false
def starB : Expr → Bool
  | .Starred _ _ => true
  | _ => false
/-- what a method is asked of: no super() -/
def baseB : Expr → Bool
  | .Call (.Name _ _) [] [] _ => false
  | _ => true
/-- an index that is no slice -/
def plainB : Expr → Bool
  | .Slice _ _ _ _ => false
  | _ => true
/-- what is walked, tested as it is -/
def setB : Expr → Bool
  | .Set _ _ _ => true
  | _ => false
/-- a test that is asked by its value -/
def valB : Expr → Bool
  | .UnaryOp .Not _ _ => false
  | .BoolOp _ _ _ => false
  | .IfExp _ _ _ _ => false
  | .Compare _ _ _ _ => false
  | _ => true
def bfS : Bf → Str
  | .len => "len"
  | .abs => "abs"
  | .min => "min"
  | .max => "max"
  | .sum => "sum"
  | .all => "all"
  | .any => "any"
  | .tuple => "tuple"
  | .list => "list"
  | .dict => "dict"
  | .sorted => "sorted"
  | .repr => "repr"
  | .str => "str"
  | .int => "int"
  | .bool => "bool"
  | .divmod => "divmod"
  | _ => "?"
/-- those that stand by their own names -/
def bfG : Bf → Bool
  | .len => true
  | .abs => true
  | .min => true
  | .max => true
  | .sum => true
  | .all => true
  | .any => true
  | .tuple => true
  | .list => true
  | .str => true
  | .int => true
  | .divmod => true
  | _ => false
def tyS : Ty → Str
  | .int => "int"
  | .bool => "bool"
  | .str => "str"
  | .list => "list"
  | .tuple => "tuple"
  | .dict => "dict"
mutual
def tslots : Tgt → List Nat
  | .nm i => [i]
  | .tp ts => tslotss ts
def tslotss : List Tgt → List Nat
  | [] => []
  | t :: r => tslots t ++ tslotss r
end
mutual
inductive MG : ME → Tgt → Expr → Prop
  | nm {m i x p} : locB m i x = true → MG m (.nm i) (.Name x p)
  | tp {m ts es k p} : MGs m ts es → MG m (.tp ts) (.Tuple es k p)
inductive MGs : ME → List Tgt → List Expr → Prop
  | nil {m} : MGs m [] []
  | cons {m t ts e es} : starB e = false → MG m t e → MGs m ts es → MGs m (t :: ts) (e :: es)
end
/-- the scope of a comprehension's block -/
def meC (m : ME) (scope : Scope) : ME := ⟨m.N, relS scope m.sc, fun x => scope.names.lookup x == some .cell, m.cv⟩
def ownC (m : ME) (g : Tgt) : List (Str × Nat) := (tslots g).map fun i => (m.N.getD i Str.empty, i)
variable (nm : Nm → Str) (df : Fk → Bool)
mutual
inductive MM : ME → CE → Expr → Prop
  | var {m i x p} : visB m i x = true → MM m (.var i) (.Name x p)
  | cst {m c x p} : glB m x = true → x = nm c → MM m (.cst c) (.Name x p)
  | dct0 {m p} : MM m (.dct [] []) (.Dict [] [] p)
  | join {m o es x ys pa q} : baseB x = true → (pa.endLine == q.line) = true → ys.length = 1 → MM m o x → MMs m es ys → MM m (.bm .join o es) (.Call (.Attribute x "join" pa) ys [] q)
  | non {m j p} : MM m .non (.Constant .none j p)
  | bl {m b j p} : MM m (.bl b) (.Constant (.bool b) j p)
  | int {m i j p} : MM m (.int i) (.Constant (.int i) j p)
  | str {m x j p} : MM m (.str x) (.Constant (.str x) j p)
  | tup {m es xs k p} : MMs m es xs → xs.length ≤ line → MM m (.tup es) (.Tuple xs k p)
  | lst {m es xs p} : MMs m es xs → xs.length ≤ line → MM m (.lst es) (.List xs p)
  | op {m o q a b x y p} : bopB o q = true → MM m a x → MM m b y → MM m (.op o a b) (.BinOp x q y p)
  | neg {m a x p} : MM m a x → MM m (.neg a) (.UnaryOp .USub x p)
  | test {m t x} : MV m t x → MM m (.test t) x
  | cmp {m o q a b x y p} : copB o q = true → behindInMarks q y = false → MM m a x → MM m b y → MM m (.cmp o a b) (.Compare x [q] [y] p)
  | chain {m o o' q q' a b c x y w p} : copB o q = true → copB o' q' = true → behindInMarks q' w = false → MM m a x → MM m b y → MM m c w → MM m (.chain o o' a b c) (.Compare x [q, q'] [y, w] p)
  | call {m f es x xs p q} : df (.fn f) = true → glB m x = true → x = nm f → xs ≠ [] → MMs m es xs → MM m (.call f es 0) (.Call (.Name x p) xs [] q)
  | bf {m b es x xs p q} : glB m x = true → x = bfS b → bfG b = true → xs ≠ [] → MMs m es xs → MM m (.bf b es) (.Call (.Name x p) xs [] q)
  | isty {m a t x y p p2 z q} : glB m x = true → x = ("isinstance" : Str) → glB m z = true → z = tyS t → starB y = false → MM m a y → MM m (.isty a [t]) (.Call (.Name x p) [y, .Name z p2] [] q)
  | ix {m o i x y p} : plainB y = true → MM m o x → MM m i y → MM m (.ix o i) (.Subscript x y p)
  | slice {m o lo hi x l h p p2} : MM m o x → MO m lo l → MO m hi h → MM m (.slice o lo hi) (.Subscript x (.Slice l h none p2) p)
  | comp {m g it cs e tg elt iter ifs scope p} : blkC m.N m.sc scope (ownC m g) = true → ((tslots g).all fun i => m.cv.contains i && decide (i < m.N.length)) = true → setB iter = false → MG (meC m scope) g tg → MI m g it iter → MTs (meC m scope) cs ifs → cs.length ≤ 1 → MM (meC m scope) e elt → MM m (.comp g it cs e) (.ListComp elt [⟨tg, iter, ifs, 0⟩] scope p)
inductive MMs : ME → List CE → List Expr → Prop
  | nil {m} : MMs m [] []
  | cons {m c cs e es} : starB e = false → MM m c e → MMs m cs es → MMs m (c :: cs) (e :: es)
inductive MO : ME → Option CE → Option Expr → Prop
  | none {m} : MO m none none
  | some {m c e} : MM m c e → MO m (some c) (some e)
/-- a test -/
inductive MT : ME → CT → Expr → Prop
  | val {m c e} : valB e = true → MM m c e → MT m (.val c) e
  | cmp {m o q a b x y p} : copB o q = true → behindInMarks q y = false → MM m a x → MM m b y → MT m (.cmp o a b) (.Compare x [q] [y] p)
  | chain {m o o' q q' a b c x y w p} : copB o q = true → copB o' q' = true → behindInMarks q' w = false → MM m a x → MM m b y → MM m c w → MT m (.chain o o' a b c) (.Compare x [q, q'] [y, w] p)
  | not {m t e p} : MT m t e → MT m (.not t) (.UnaryOp .Not e p)
  | and {m ts es p} : MTs m ts es → es ≠ [] → MT m (.and ts) (.BoolOp .And es p)
  | or {m ts es p} : MTs m ts es → es ≠ [] → MT m (.or ts) (.BoolOp .Or es p)
inductive MTs : ME → List CT → List Expr → Prop
  | nil {m} : MTs m [] []
  | cons {m t ts e es} : MT m t e → MTs m ts es → MTs m (t :: ts) (e :: es)
/-- a test as a value -/
inductive MV : ME → CT → Expr → Prop
  | bv {m c e} : MM m c e → MV m (.bv c) e
  | not {m c e p} : MM m c e → MV m (.notv c) (.UnaryOp .Not e p)
  | and {m ts es p} : MVs m ts es → es ≠ [] → MV m (.and ts) (.BoolOp .And es p)
  | or {m ts es p} : MVs m ts es → es ≠ [] → MV m (.or ts) (.BoolOp .Or es p)
inductive MVs : ME → List CT → List Expr → Prop
  | nil {m} : MVs m [] []
  | cons {m t ts e es} : MV m t e → MVs m ts es → MVs m (t :: ts) (e :: es)
/-- what is walked -/
inductive MI : ME → Tgt → CI → Expr → Prop
  | seq {m g c e} : setB e = false → MM m c e → MI m g (.seq c) e
  | range {m g es x xs p q} : glB m x = true → x = ("range" : Str) → (xs.length = 1 ∨ xs.length = 2 ∨ xs.length = 3) → MMs m es xs → MI m g (.range es) (.Call (.Name x p) xs [] q)
  | enum {m ts c x e p q} : glB m x = true → x = ("enumerate" : Str) → starB e = false → MM m c e → MI m (.tp ts) (.enum c) (.Call (.Name x p) [e] [] q)
  | zip {m ts es x xs p q} : glB m x = true → x = ("zip" : Str) → xs.length = 2 → MMs m es xs → MI m (.tp ts) (.zip es) (.Call (.Name x p) xs [] q)
end
/-! ### statements -/
def compB : Expr → Bool
  | .ListComp _ _ _ _ => true
  | .SetComp _ _ _ _ => true
  | .DictComp _ _ _ _ _ => true
  | _ => false
def tupB : Expr → Bool
  | .Tuple _ _ _ => true
  | _ => false
/-- a comprehension's value goes to a name at once -/
def swB (m : ME) (x : Str) (px : Pos) (scope : Scope) (p : Pos) : Bool := decide (kd m x = some .local) && (px.line == p.line) && !(scope.names.any fun (n, k) => n == x && (k == .local || k == .cell))
mutual
inductive MS : ME → CS → Stmt → Prop
  | expr {m c e p} : compB e = false → MM nm df m c e → MS m (.expr c) (.Expr e p)
  | set {m i c x px e p} : locB m i x = true → compB e = false → MM nm df m c e → MS m (.set i c) (.Assign [.Name x px] e p)
  | own {m i c x px e p} : locB m i x = true → m.cv.contains i = false → compB e = false → MM nm df m c e → MS m (.own i c) (.Assign [.Name x px] e p)
  | setC {m i x px p g it cs c tg elt iter ifs scope pc} : locB m i x = true → swB m x px scope pc = true → MM nm df m (.comp g it cs c) (.ListComp elt [⟨tg, iter, ifs, 0⟩] scope pc) → MS m (.set i (.comp g it cs c)) (.Assign [.Name x px] (.ListComp elt [⟨tg, iter, ifs, 0⟩] scope pc) p)
  | ownC {m i x px p g it cs c tg elt iter ifs scope pc} : locB m i x = true → m.cv.contains i = false → swB m x px scope pc = true → MM nm df m (.comp g it cs c) (.ListComp elt [⟨tg, iter, ifs, 0⟩] scope pc) → MS m (.own i (.comp g it cs c)) (.Assign [.Name x px] (.ListComp elt [⟨tg, iter, ifs, 0⟩] scope pc) p)
  | put {m ts c es k p2 e p} : MG m (.tp ts) (.Tuple es k p2) → tupB e = false → MM nm df m c e → MS m (.put (.tp ts) c) (.Assign [.Tuple es k p2] e p)
  | ix {m o i c x y e p2 p} : plainB y = true → MM nm df m o x → MM nm df m i y → compB e = false → MM nm df m c e → MS m (.ix o i c) (.Assign [.Subscript x y p2] e p)
  | aug {m i o q c x px e p} : locB m i x = true → (o = .add ∧ q = .Add ∨ o = .sub ∧ q = .Sub) → MM nm df m c e → MS m (.aug i o c) (.AugAssign (.Name x px) q e p)
  | ret {m c e p} : MM nm df m c e → MS m (.ret c) (.Return (some e) p)
  | retv {m i x px p} : visB m i x = true → MS m (.retv i) (.Return (some (.Name x px)) p)
  | ret0 {m p} : MS m .ret0 (.Return none p)
  | ite {m c a b e A B p} : MT nm df m c e → MB m a A → MB m b B → MS m (.ite c a b) (.If e A B p)
  | for_ {m g it b tg e B p} : setB e = false → MG m g tg → MI nm df m g it e → MB m b B → MS m (.for_ g it b) (.For tg e B [] p)
  | while {m c b e B p} : MT nm df m c e → MB m b B → MS m (.while c b) (.While e B [] p)
  | brk {m p} : MS m .brk (.Break p)
  | cont {m p} : MS m .cont (.Continue p)
  | pass {m p} : MS m .pass (.Pass p)
  | app {m i c x px pa e p q} : visB m i x = true → (pa.endLine == q.line) = true → starB e = false → MM nm df m c e → MS m (.mut none i .append [c]) (.Expr (.Call (.Attribute (.Name x px) "append" pa) [e] [] q) p)
inductive MB : ME → List CS → List Stmt → Prop
  | nil {m} : MB m [] []
  | frz {m i cs ss} : MB m cs ss → MB m (.frz i :: cs) ss
  | share {m i cs ss} : MB m cs ss → MB m (.share i :: cs) ss
  | cons {m c cs s ss} : MS m c s → MB m cs ss → MB m (c :: cs) (s :: ss)
end
end Mi
namespace Mi
open PySem PySem.Spec L2
section
variable {F : Fx} {z : Slots} {σ : L2.St} {W : WX} {t s : S0}
/-- an operand: kept while others are reckoned -/
def Held (F : Fx) (z : Slots) (σ : L2.St) (s : S0) (e : E) (v : V) : Prop := match e with
  | .fz u => F.rep s u v
  | .own u => F.rep s u v
  | .loc i => σ[i]? = some (some v) ∧ ∃ u, z[i]? = some (some (.own u))
/-- what is seen of an operand: it stands as v, or is what stands where v points -/
def Seen (F : Fx) (s : S0) (u : U) (v : V) : Prop := F.rep s u v ∨ ∃ a, v = .ref a ∧ F.cont s u a
theorem RepE.held {e : E} {v : V} {s : S0} (okt : Ok F t z σ) (a : At F z σ t s) (r : RepE F z σ t s e v) : ∃ s', s'.H = s.H ∧ s'.h = s.h ∧ ExtS s s' ∧ At F z σ t s' ∧ Held F z σ s' e v := by
  cases e with
  | fz w => exact ⟨s, rfl, rfl, ExtS.refl, a, r⟩
  | own w =>
    obtain ⟨p, rfl, c, m, b, i, n⟩ := r
    refine ⟨{ s with M := fun b => s.M b ∧ b ≠ p }, rfl, rfl, ExtS.drop, ⟨a.ext.trans ExtS.drop, a.ok.drop b i fun j w e => ?_⟩, c.rep (fun m => m.2 rfl) fun b m => m.1⟩
    exact okt.own_ne n j w e
  | loc i => exact ⟨s, rfl, rfl, ExtS.refl, a, r⟩
theorem Held.ext {e : E} {v : V} {s s' : S0} (h : HRel F s) (x : ExtS s s') (r : Held F z σ s e v) : Held F z σ s' e v := by
  cases e with
  | fz w => exact x.rep h r
  | own w => exact x.rep h r
  | loc i => exact r
theorem Held.see {e : E} {v : V} {s : S0} (ok : Ok F s z σ) (r : Held F z σ s e v) {u : U} (k : e.see z s.h = some u) : Seen F s u v := by
  cases e with
  | fz w =>
    cases w with
    | ref n =>
      obtain ⟨a, e1, e2⟩ : F.rep s (.ref n) v := r
      cases hh : s.h with
      | none => rw [hh] at k; cases k
      | some xs =>
        rw [hh] at k
        exact .inr ⟨a, e2, (ok.hr.hp xs hh).2 n u a k e1⟩
    | _ => cases k; exact .inl r
  | own w => cases k; exact .inl r
  | loc i =>
    obtain ⟨e1, w, e2⟩ := r
    have k' : (match z[i]? with
      | some (some (.own u)) => some u
      | _ => none) = some u := k
    rw [e2] at k'
    cases k'
    obtain ⟨a, e3, c, _⟩ := ok.sr.own i _ e2
    rw [e1] at e3
    cases e3
    exact .inr ⟨a, rfl, c⟩
theorem Held.keep {e : E} {v : V} {s : S0} (r : Held F z σ s e v) {u : U} {h : CH} (k : e.keep s.h = .ok u h) : F.rep s u v := by
  cases e with
  | fz w => cases k; exact r
  | own w => cases k; exact r
  | loc i => cases k
theorem Post.start {α β : Type} {R2 : S0 → S0 → α → β → Prop} {Q : β → Hp → Prop} {r : Res α} {s s' : S0} (mono : ∀ t t1 s a v, ExtS t t1 → R2 t1 s a v → R2 t s a v) (x : ExtS s s') (p : Post F z σ W s R2 Q r) : Post F z σ W s' R2 Q r := by
  cases r with
  | ok a h' => exact fun s2 v e x2 ok r => p s2 v e (x.trans x2) ok (mono _ _ _ _ _ x r)
  | exc c fs h' => exact fun s2 d e x2 ok r => p s2 d e (x.trans x2) ok r
  | stuck => exact p
/-- an operand is reckoned, then the rest -/
theorem Post.hold {γ δ : Type} {R2 : S0 → S0 → γ → δ → Prop} {Q : δ → Hp → Prop} {r : Res E} {f : E → CH → Res γ} (okt : Ok F t z σ)
    (mono : ∀ t t1 s a v, ExtS t t1 → R2 t1 s a v → R2 t s a v) (h : Post F z σ W t R2 Q (r.bind f)) :
    Post F z σ W t (RepE F z σ) (fun v H1 => ∃ s e, s.H = H1 ∧ At F z σ t s ∧ Held F z σ s e v ∧ Post F z σ W s R2 Q (f e s.h)) r := by
  refine (Post.bind mono h).imp fun v H1 ⟨s, e, e1, a, r, p⟩ => ?_
  obtain ⟨s', e2, e3, x, a', q⟩ := r.held okt a
  refine ⟨s', e, e2.trans e1, a', q, ?_⟩
  rw [e3]
  exact p.start mono x
theorem RepE.mono : ∀ (t t1 s : S0) (a : E) (v : V), ExtS t t1 → RepE F z σ t1 s a v → RepE F z σ t s a v := fun _ _ _ _ _ x r => r.from x
theorem RepUs.mono : ∀ (t t1 s : S0) (a : List U) (v : List V), ExtS t t1 → RepUs F t1 s a v → RepUs F t s a v := fun _ _ _ _ _ _ r => r
theorem RepB.mono : ∀ (t t1 s : S0) (a b : Bool), ExtS t t1 → RepB t1 s a b → RepB t s a b := fun _ _ _ _ _ _ r => r
theorem At.more {s s' : S0} (a : At F z σ t s) (b : At F z σ s s') : At F z σ t s' := ⟨a.ext.trans b.ext, b.ok⟩
theorem At.refl (ok : Ok F t z σ) : At F z σ t t := ⟨ExtS.refl, ok⟩
end

section
variable {X : Cx}
/-- the reading that asks for just what is to be shown -/
def EAt (X : Cx) (e : Expr) : TE := fun σ H Q => ∀ pins s, Inv X pins σ H s → wpAny (model X.prog X.w) X.A (eval e X.env) (EP X pins σ Q) X.xe s
theorem pe_at {e : Expr} : PE X e (EAt X e) := ⟨fun pins s _ _ _ I h => h pins s I⟩
theorem atE {e : Expr} {te : TE} (p : PE X e te) {σ : L2.St} {H : Hp} {Q : VK} (h : te σ H Q) : EAt X e σ H Q := fun pins s I => p.run pins s σ H Q I h
theorem EAt.imp {e : Expr} {σ : L2.St} {H : Hp} {Q Q' : VK} (h : EAt X e σ H Q) (q : ∀ v H, Q v H → Q' v H) : EAt X e σ H Q' := fun pins s I => thn (h pins s I) fun _ _ ⟨v, H', I', r, w⟩ => ⟨v, H', I', r, q v H' w⟩
def TAt (X : Cx) (e : Expr) : TT := fun σ H Q => ∀ (wh : Sem Value) pins s, Inv X pins σ H s → (wh = eval e X.env) → wpAny (model X.prog X.w) X.A (isTrue e X.env wh) (TP X pins σ Q) X.xe s
theorem pt_at {e : Expr} : PT X e (TAt X e) := ⟨fun pins s _ _ _ I h => h _ pins s I rfl⟩
theorem atT {e : Expr} {te : TT} (p : PT X e te) {σ : L2.St} {H : Hp} {Q : Bool → Hp → Prop} (h : te σ H Q) : TAt X e σ H Q := fun wh pins s I e => by
  subst e
  exact p.run pins s σ H Q I h
def AAt (X : Cx) (es : List Expr) : TA := fun σ H Q => ∀ (pos : Pos) pins s, Inv X pins σ H s → wpAny (model X.prog X.w) X.A (spliced (backTo pos (starEach es X.env))) (AP X pins σ Q) X.xe s
theorem pa_at {es : List Expr} : PA X es (AAt X es) := ⟨fun pos pins s _ _ _ I h => h pos pins s I⟩
theorem atA {es : List Expr} {te : TA} (p : PA X es te) {σ : L2.St} {H : Hp} {Q : List V → Hp → Prop} (h : te σ H Q) : AAt X es σ H Q := fun pos pins s I => p.run pos pins s σ H Q I h
end

/-! ### what a def promises -/
/-- a result of a call -/
def RepR (F : Fx) (t s : S0) (e : E) (v : V) : Prop := match e with
  | .fz u => F.rep s u v
  | .own u => ∃ a, v = .ref a ∧ F.cont s u a ∧ s.M a ∧ ¬ F.B a ∧ a ∉ s.io ∧ t.H a = none
  | .loc _ => False
def spF (K : PySem.W.Frag) (G : Glob) (P : Prog) (n : Nat) (k : Fk) : Sp := fun vs H Q E => ∃ (B : AP1) (s : S0) (us : List U), s.H = H ∧ HRel ⟨K, G, P.toTop, B, H, []⟩ s ∧ Reps K G P.lay s.io s.M s.H us vs ∧
  match phi P n k us s.h with
  | .ok e h' => ∀ s' v, s'.h = h' → ExtS s s' → HRel ⟨K, G, P.toTop, B, H, []⟩ s' → RepR ⟨K, G, P.toTop, B, H, []⟩ s s' e v → Q v s'.H
  | .exc c fs h' => ∀ s' d, s'.h = h' → ExtS s s' → HRel ⟨K, G, P.toTop, B, H, []⟩ s' → XAt ⟨K, G, P.toTop, B, H, []⟩ s' c fs d → E (.ref (G.cl c)) (some d) s'.H
  | .stuck => False
structure FnInfo (P : Prog) (G : Glob) (n : Nat) (X : Cx) (k : Fk) : Prop where
  ex : ∃ (fd : FuncData) (ps : List Str), FnOk X.prog X.w X.K X.mg X.base (L2.CX X.prog X.w) n (G.ad k) fd ps (spF X.K G P n k) ∧ Binds X.K fd ps []
  kp : PySem.W.keepIn X.K (.ref (G.ad k)) = true
structure Good (nm : Nm → Str) (df : Fk → Bool) (P : Prog) (n : Nat) (F : Fx) (X : Cx) (m : ME) (W : WX) : Prop where
  hN : X.N = m.N
  sc : X.env.scope = m.sc
  fn : X.fn = m.fn
  cv : F.cv = m.cv
  nd : m.N.Nodup
  calm : X.calm = true
  takes : Takes X W
  K : F.K = X.K
  T : F.T = P.toTop
  room : Room n X.A
  bl : ∀ x, x ∈ (["len", "abs", "min", "max", "sum", "all", "any", "tuple", "list", "dict", "sorted", "repr", "str", "int", "bool", "divmod", "isinstance", "range", "enumerate", "zip", "reversed", "set"] : List Str) → X.mg x = none
  df : ∀ k, df k = true → ∃ d, P.defs k = some d
  fns : ∀ k d, P.defs k = some d → FnInfo P F.G n X k
  gf : ∀ f d, P.defs (.fn f) = some d → X.mg (nm f) = some (.ref (F.G.ad (.fn f)))
  cs : ∀ c u, P.cst c = some u → ∃ v w, X.mg (nm c) = some w ∧ RelV v w ∧ ∀ io M H, Rep F.K F.G P.lay io M H u v
/-- a call's promise, from the caller's state -/
theorem spF_of {P : Prog} {n : Nat} {F : Fx} {z : Slots} {σ : L2.St} {W : WX} {t : S0} {k : Fk} {us : List U} {vs : List V} {Q : VK} {E : XK} (hT : F.T = P.toTop) (ok : Ok F t z σ) (r : F.reps t us vs)
    (p : Post F z σ W t (RepE F z σ) Q (ended (phi P n k us t.h))) (hE : ∀ c d H, W c d σ H → E c d H) : spF F.K F.G P n k vs t.H Q E := by
  obtain ⟨K, G, T, B, H0, cv⟩ := F
  subst hT
  refine ⟨fun b => t.M b ∧ b ∉ t.io, t, us, rfl, ?_, r, ?_⟩
  · exact ⟨ok.hr.dom, fun b m => m.1, fun b hb => ⟨(ok.hr.iot b hb).1, fun m => m.2 hb⟩, ok.hr.nd, ok.hr.hp⟩
  have back : ∀ s', ExtS t s' → HRel ⟨K, G, P.toTop, fun b => t.M b ∧ b ∉ t.io, t.H, []⟩ s' → Ok ⟨K, G, P.toTop, B, H0, cv⟩ s' z σ := fun s' x h => by
    have hB : ∀ b, B b → t.M b ∧ b ∉ t.io := fun b m => ⟨ok.hr.sub b m, fun q => (ok.hr.iot b q).2 m⟩
    refine ⟨⟨h.dom, fun b m => h.sub b (hB b m), fun b hb => ⟨(h.iot b hb).1, fun m => (h.iot b hb).2 (hB b m)⟩, h.nd, h.hp⟩, ok.sr.mo ok.hr (x.mo ok.hr) (fun b m _ n => ⟨h.sub b ⟨m, n⟩, fun q => (h.iot b q).2 ⟨m, n⟩⟩) fun b o e n => x.keep b o e fun w => n ?_⟩
    cases hh : t.h with
    | none => rw [hh] at w; exact False.elim w
    | some _ => rw [hh] at w; exact w
  revert p
  cases phi P n k us t.h with
  | stuck => exact fun p => p
  | exc c fs h' =>
    intro p s' d e x h q
    exact hE _ _ _ (p s' d e x (back s' x h) q)
  | ok e h' =>
    cases e with
    | loc i => exact fun p => False.elim p
    | fz u => exact fun p s' v e x h q => p s' v e x (back s' x h) q
    | own u =>
      intro p s' v e x h q
      obtain ⟨a, e1, c, m, b, i, nn⟩ := q
      exact p s' v e x (back s' x h) ⟨a, e1, c, m, fun z => b ⟨ok.hr.sub a z, fun q => (ok.hr.iot a q).2 z⟩, i, nn⟩
end Mi
namespace Mi
open PySem PySem.Spec L2
section
variable {X : Cx}
theorem opAny {f : Value → Value → Sem Value} : OpR X f (fun x y H Q => ∃ r : R2, OpR X f r ∧ r x y H Q) := fun pins s σ H x y v u Q I rx ry ⟨r, h, hr⟩ => h pins s σ H x y v u Q I rx ry hr
theorem callAny {f : Value} : CallR X f (fun xs H Q => ∃ r : List V → Hp → VK → Prop, CallR X f r ∧ r xs H Q) := fun pins s σ H xs us Q I rx ⟨r, h, hr⟩ => h pins s σ H xs us Q I rx hr
theorem ixAny : IxR X (fun x y H Q => ∃ r : R2, IxR X r ∧ r x y H Q) := fun value slice pins s σ H x y v u Q I rx ry ⟨r, h, hr⟩ hs => h value slice pins s σ H x y v u Q I rx ry hr hs
theorem slAny : SlR X (fun x lo hi H Q => ∃ r : V → Option Int → Option Int → Hp → VK → Prop, SlR X r ∧ r x lo hi H Q) := fun pins s σ H x v vl vu lo hi sl Q I rx hs pl pu ⟨r, h, hr⟩ => h pins s σ H x v vl vu lo hi sl Q I rx hs pl pu hr
section
open PyProof.Rows
theorem ix_dget (hu : X.A.units + 1 < cLine) : IxR X (fun x y H Q => ∃ a v, x = .ref a ∧ DGet H a y (some v) ∧ Q v H) := by
  intro value slice pins s σ H x y v u Q I rx ry h hs
  obtain ⟨a, w, rfl, g, q⟩ := h
  cases rx
  unfold subscriptTail
  refine wpAny_bind ?_
  rw [getitemInPython_of_ne (dict_typeIs I g).not_modules]
  refine wpAny_bind (wpAny_specialOf (dict_typeIs I g) PySem.F.slot_dict_getitem.lookup ?_)
  have fin : wpAny (model X.prog X.w) X.A (subscripted slice false (.ref a) u) (fun r s₃ => wpAny (model X.prog X.w) X.A (letTemporaryGo value (.ref a) r >>= fun _ => pure r) (EP X pins σ Q) X.xe s₃) X.xe s := by
    rw [hs]
    exact wpAny_operating (wpAny_mono (d_getItem (Q := EP X pins σ Q) hu I g ry fun w' s3 I3 rw' => ⟨w, H, I3, rw', q⟩) (fun r s₃ h₃ => wpAny_bind (wpAny_letTemporaryGo (wpAny_pure h₃))) fun _ _ x => x)
  first
    | exact wpAny_pure (wpAny_bind fin)
    | exact wpAny_bind (wpAny_pure (wpAny_bind fin))
    | exact wpAny_bind fin
end
theorem op_din (hu : X.A.units + 1 < cLine) : OpR X (compareOp .In) (fun y x H Q => ∃ a o, x = .ref a ∧ DGet H a y o ∧ Q (.bl o.isSome) H) := by
  intro pins s σ H y x v u Q I ry rx h
  obtain ⟨a, o, rfl, g, q⟩ := h
  cases rx
  exact d_in hu I g ry fun s3 I3 => ⟨.bl o.isSome, H, I3, rfl, q⟩
theorem op_dnotin (hu : X.A.units + 1 < cLine) : OpR X (compareOp .NotIn) (fun y x H Q => ∃ a o, x = .ref a ∧ DGet H a y o ∧ Q (.bl (!o.isSome)) H) := by
  intro pins s σ H y x v u Q I ry rx h
  obtain ⟨a, o, rfl, g, q⟩ := h
  cases rx
  exact d_notIn hu I g ry fun s3 I3 => ⟨.bl (!o.isSome), H, I3, rfl, q⟩
/-- a list that is read -/
theorem lstR {pins : List (Addr × Obj)} {σ : L2.St} {H : Hp} {s : Shared} {p : Addr} {xs : List V} (I : Inv X pins σ H s) (h : Rd H p (.lst xs)) : xs.length ≤ sizeLine ∧ ∃ (its : List Value) (n : Nat), Vals xs its ∧ xs.length = its.length ∧ s.heap.get? p = some { cls := .type "list", data := .seq its.toArray n } := by
  obtain ⟨z, its, n, r, e⟩ := h.ok I.hok
  exact ⟨z, its, n, r, r.length, e⟩
def rCatR : R2 := fun x y H Q => ∃ l b xs zs, x = .ref l ∧ y = .ref b ∧ Rd H l (.lst xs) ∧ Rd H b (.lst zs) ∧ xs.length + zs.length ≤ sizeLine ∧ ∀ p, H p = none → Q (.ref p) (upd H p (.lst (xs ++ zs)))
theorem op_catR : OpR X (binaryOp .Add) rCatR := by
  intro pins s σ H x y v u Q I rx ry h
  obtain ⟨l, b, xs, zs, rfl, rfl, hH, hB, hz, q⟩ := h
  cases rx
  cases ry
  obtain ⟨z, its, n, r, hl, e⟩ := lstR I hH
  obtain ⟨z2, its2, n2, r2, hl2, e2⟩ := lstR I hB
  refine PySem.P.add_list e e2 ?_ (by rw [List.size_toArray, List.size_toArray]; omega)
  have ea : its.toArray ++ its2.toArray = (its ++ its2).toArray := by simp
  rw [ea]
  exact ⟨.ref _, _, I.lnew (t' := s.toks) (r.append r2) (by rw [List.length_append]; omega), rfl, q _ I.fresh⟩
section
open PyProof.Rows
def rRepR : R2 := fun x y H Q => ∃ l k xs, x = .ref l ∧ y = .int k ∧ Rd H l (.lst xs) ∧ -(2 ^ 63) ≤ k ∧ k < 2 ^ 63 ∧ xs.length * k.toNat ≤ sizeLine ∧
  ∀ p, H p = none → Q (.ref p) (upd H p (.lst (List.replicate k.toNat xs).flatten))
theorem op_repR : OpR X (binaryOp .Mult) rRepR := by
  intro pins s σ H x y v u Q I rx ry h
  obtain ⟨l, k, xs, rfl, rfl, hH, h1, h2, hz, q⟩ := h
  cases rx
  obtain ⟨t, rfl⟩ := ry
  obtain ⟨z, its, n, r, hl, e⟩ := lstR I hH
  have hlen : its.toArray.size * k.toNat ≤ sizeLine := by rw [List.size_toArray, ← hl]; exact hz
  have hcap : ¬ its.toArray.size * k.toNat > (2 ^ 63 - 1) / 8 := by
    have : (sizeLine : Nat) ≤ (2 ^ 63 - 1) / 8 := by decide
    omega
  have hfit : ¬ (!Builtin.List.listFitsIndex k) = true := by
    rw [fitsIndex_both h1 h2]
    exact Bool.false_ne_true
  have hlong : ¬ Builtin.List.listTooLong (its.toArray.size * k.toNat) = true := by
    rw [notLongL hlen]
    exact Bool.false_ne_true
  have hnew : List.foldl (fun x1 x2 => x1 ++ x2) #[] (List.replicate (if its.toArray.isEmpty = true then 0 else k.toNat) its.toArray) = (List.replicate k.toNat its).flatten.toArray := by
    have f0 : ∀ m : Nat, List.foldl (fun x1 x2 => x1 ++ x2) #[] (List.replicate m its.toArray) = (List.replicate m its).flatten.toArray := fun m => by
      have := foldl_rep its m []
      rw [List.nil_append] at this
      exact this
    rw [f0]
    cases its with
    | nil => simp
    | cons a r' => rw [if_neg (by simp)]
  refine wpAny_binaryOp_repeat_ref (T := "list") (U := "int") (by decide) ⟨_, e, rfl⟩ (fun s' => typeIs_int s' k t) noFill_list_mul F.fills_int_mul F.slot_int_rmul repeat_list F.slot_int_index.lookup
    (call_meets F.slot_int_rmul (typeIs_int s k t) F.entry_int_rmul (F.args_int_rmul_2 _ _) (int___rmul___int_list k t l its.toArray n)
      ⟨e, rfl, ⟨_, e, rfl⟩, call_meets F.slot_list_mul ⟨_, e, rfl⟩ F.entry_list_mul (F.args_list_mul_2 _ _) (AutoListH.list___mul___list_int_3 l its.toArray n k t hfit hcap hlong) ⟨e, ?_⟩⟩)
  rw [hnew]
  exact ⟨.ref _, _, I.lnew (t' := s.toks) (r.rep k.toNat) (by rw [PyProof.Rows.lm_len_rep_flat, Nat.mul_comm]; exact hz), rfl, q _ I.fresh⟩
end
end
section
variable {F : Fx} {z : Slots} {σ : L2.St} {W : WX} {t s : S0} {X : Cx}
/-- what may be said of a thing seen -/
theorem Seen.int {i : Int} {v : V} (h : Seen F s (.int i) v) : v = .int i := by
  rcases h with h | ⟨a, _, h⟩
  · have h' := h; unfold Fx.rep at h'; simp only [Rep] at h'; exact h'
  · exact False.elim h
theorem Seen.bl {b : Bool} {v : V} (h : Seen F s (.bl b) v) : v = .bl b := by
  rcases h with h | ⟨a, _, h⟩
  · have h' := h; unfold Fx.rep at h'; simp only [Rep] at h'; exact h'
  · exact False.elim h
theorem Seen.str {x : Str} {v : V} (h : Seen F s (.str x) v) : v = .str x := by
  rcases h with h | ⟨a, _, h⟩
  · have h' := h; unfold Fx.rep at h'; simp only [Rep] at h'; exact h'
  · exact False.elim h
theorem Seen.non {v : V} (h : Seen F s .non v) : v = .non := by
  rcases h with h | ⟨a, _, h⟩
  · have h' := h; unfold Fx.rep at h'; simp only [Rep] at h'; exact h'
  · exact False.elim h
theorem Seen.tup {xs : List U} {v : V} (h : Seen F s (.tup xs) v) : ∃ a vs, v = .ref a ∧ SqT F.K s.H a vs ∧ F.reps s xs vs := by
  rcases h with h | ⟨a, _, h⟩
  · have h' := h
    unfold Fx.rep at h'
    simp only [Rep] at h'
    obtain ⟨a, vs, e, q, r⟩ := h'
    refine ⟨a, vs, e, ?_, r⟩
    rcases q with q | q
    · exact .inl q.2
    · exact .inr q
  · exact False.elim h
theorem Seen.lst {xs : List U} {v : V} (h : Seen F s (.lst xs) v) : ∃ a vs, v = .ref a ∧ Rd s.H a (.lst vs) ∧ F.reps s xs vs := by
  rcases h with h | ⟨a, e, h⟩
  · have h' := h
    unfold Fx.rep at h'
    simp only [Rep] at h'
    obtain ⟨a, vs, e, q, r⟩ := h'
    exact ⟨a, vs, e, q.2, r⟩
  · obtain ⟨vs, e1, r⟩ := h
    exact ⟨a, vs, e, .inl e1, r⟩
theorem Seen.dct {kvs : List (U × U)} {v : V} (h : Seen F s (.dct kvs) v) : ∃ a l, v = .ref a ∧ Rd s.H a (.dK l) ∧ RepD F.K F.G F.T.lay s.io s.M s.H kvs l := by
  rcases h with h | ⟨a, e, h⟩
  · have h' := h
    unfold Fx.rep at h'
    simp only [Rep] at h'
    obtain ⟨a, l, e, q, r⟩ := h'
    exact ⟨a, l, e, q.2, r⟩
  · obtain ⟨l, e1, r⟩ := h
    exact ⟨a, l, e, .inl e1, r⟩
def rDGet : R2 := fun x y H Q => ∃ a v, x = .ref a ∧ DGet H a y (some v) ∧ Q v H
def rDIn (neg : Bool) : R2 := fun y x H Q => ∃ a o, x = .ref a ∧ DGet H a y o ∧ Q (.bl (xor neg o.isSome)) H
def keyK : U → Key
  | .int i => .inl i
  | .str x => .inr x
  | _ => .inl 0
theorem key_look {K : PySem.W.Frag} {G : Glob} {lay : Nm → List Nm} {io : List Addr} {M : AP1} {H : Hp} {k : U} (hk : isKey k = true) : ∀ {kvs : List (U × U)} {l : List (Key × V)}, RepD K G lay io M H kvs l → (match lkup k kvs with
    | some u => ∃ v, valV l (keyK k) = some v ∧ Rep K G lay io M H u v
    | none => valV l (keyK k) = none)
  | [], [], _ => rfl
  | (a, u) :: r, (q, v) :: l, h => by
    simp only [RepD, RepP] at h
    obtain ⟨⟨rfl, h1⟩, h2⟩ := h
    have ih := key_look hk h2
    have e : eqb (unK q) k = decide (q = keyK k) := by
      cases k with
      | int i =>
        cases q with
        | inl j =>
          by_cases hj : j = i <;> simp [unK, keyK, eqb, hj]
        | inr y => rfl
      | str x =>
        cases q with
        | inl j => rfl
        | inr y =>
          by_cases hj : y = x <;> simp [unK, keyK, eqb, hj]
      | _ => cases hk
    unfold lkup
    rw [e]
    by_cases hq : q = keyK k
    · rw [if_pos (decide_eq_true hq)]
      exact ⟨v, valV_pos hq, h1⟩
    · rw [if_neg (by simp [hq]), valV_neg (p := (q, v)) hq]
      exact ih
  | [], _ :: _, h => by simp only [RepD] at h
  | _ :: _, [], h => by simp only [RepD] at h
theorem key_val {k : U} {v : V} (hk : isKey k = true) (r : Seen F s k v) : v = kV (keyK k) := by
  cases k with
  | int i => exact r.int
  | str x => exact r.str
  | _ => cases hk
theorem Seen.scr {ns : List Int} {v : V} (h : Seen F s (.scr ns) v) : ∃ a, v = .ref a ∧ SqL F.K s.H a (ns.map .int) := by
  rcases h with h | ⟨a, e, h⟩
  · have h' := h
    unfold Fx.rep at h'
    simp only [Rep] at h'
    obtain ⟨a, e, q⟩ := h'
    exact ⟨a, e, q.elim (fun q => .inl q.2) .inr⟩
  · exact False.elim h
/-- a new list, which nothing else holds -/
theorem new_lst {xs : List U} {vs : List V} {p : Addr} (ok : Ok F s z σ) (hp : s.H p = none) (r : F.reps s xs vs) : ∃ s', s'.h = s.h ∧ s'.H = upd s.H p (.lst vs) ∧ At F z σ s s' ∧ RepE F z σ s s' (.own (.lst xs)) (.ref p) := by
  refine ⟨{ s with H := upd s.H p (.lst vs), M := fun b => s.M b ∨ b = p }, rfl, rfl, ⟨ExtS.updM hp, ok.updM hp⟩, p, rfl, ⟨vs, upd_same, Reps.mo (Mo.updM hp) r⟩, .inr rfl, fun m => ok.hr.fresh hp (ok.hr.sub p m), fun m => ok.hr.fresh hp (ok.hr.iot p m).1, hp⟩
/-- a new tuple -/
theorem new_tup {xs : List U} {vs : List V} {p : Addr} (ok : Ok F s z σ) (hp : s.H p = none) (r : F.reps s xs vs) : ∃ s', s'.h = s.h ∧ s'.H = upd s.H p (.tup vs) ∧ At F z σ s s' ∧ F.rep s' (.tup xs) (.ref p) := by
  refine ⟨{ s with H := upd s.H p (.tup vs) }, rfl, rfl, ⟨ExtS.newF hp, ok.newF hp⟩, ?_⟩
  unfold Fx.rep
  simp only [Rep]
  exact ⟨p, vs, rfl, .inl ⟨ok.hr.fresh hp, .inl upd_same⟩, Reps.mo (Mo.newF hp) r⟩
theorem rep_int {i : Int} : F.rep s (.int i) (.int i) := by unfold Fx.rep; simp only [Rep]
theorem rep_bl {i : Bool} : F.rep s (.bl i) (.bl i) := by unfold Fx.rep; simp only [Rep]
theorem rep_str {i : Str} : F.rep s (.str i) (.str i) := by unfold Fx.rep; simp only [Rep]
theorem rep_non : F.rep s .non .non := by unfold Fx.rep; simp only [Rep]
theorem Reps.nil_iff {us : List U} {vs : List V} (r : F.reps s us vs) : us = [] ↔ vs = [] := by
  have l := Reps.length r
  constructor
  · rintro rfl; exact List.eq_nil_of_length_eq_zero l.symm
  · rintro rfl; exact List.eq_nil_of_length_eq_zero l
theorem Reps.rep {us : List U} {vs : List V} (r : F.reps s us vs) : ∀ n, F.reps s (List.replicate n us).flatten (List.replicate n vs).flatten
  | 0 => by simp [Fx.reps, Reps]
  | n + 1 => by
    simp only [List.replicate_succ, List.flatten_cons]
    exact Reps.append r (Reps.rep r n)
theorem line_eq : (line : Nat) = sizeLine := by rw [sizeLine_eq]
theorem small_mul {i : Int} (h : small i = true) : -(2 ^ 64) < i ∧ i < 2 ^ 64 := by
  unfold small at h
  simp only [decide_eq_true_eq] at h
  omega
/-- operators of two things seen -/
theorem bop_ok {o : Bop} {q : Operator} {u u' : U} {v v' : V} {e : E} {Q : VK} (hK : F.K = X.K) (hq : bopB o q = true) (ok : Ok F s z σ) (h1 : Seen F s u v) (h2 : Seen F s u' v') (hb : bop o u u' = some e)
    (hQ : Post F z σ W s (RepE F z σ) Q (.ok e s.h)) : ∃ r : R2, OpR X (binaryOp q) r ∧ r v v' s.H Q := by
  have fin : ∀ {w : U} {y : V}, E.fz w = e → F.rep s w y → Q y s.H := fun {w y} e1 r => hQ s y rfl ExtS.refl ok (by subst e1; exact r)
  unfold bop at hb
  split at hb
  · cases q <;> first | (exact absurd hq (by decide)) | skip
    exact ⟨_, op_add, _, _, h1.int, h2.int, fin (Option.some.inj hb) rep_int⟩
  · cases q <;> first | (exact absurd hq (by decide)) | skip
    split at hb
    · rename_i hl
      exact ⟨_, op_add_str, _, _, h1.str, h2.str, by rw [← line_eq]; exact hl, fin (Option.some.inj hb) rep_str⟩
    · cases hb
  · cases q <;> first | (exact absurd hq (by decide)) | skip
    split at hb
    · rename_i hl
      have hb := Option.some.inj hb
      obtain ⟨a, xs, e1, q1, r1⟩ := h1.tup
      obtain ⟨b, ys, e2, q2, r2⟩ := h2.tup
      rw [hK] at q1 q2
      refine ⟨_, op_catA, a, b, xs, ys, e1, e2, q1, q2, ?_, fun hx => ?_, fun _ hy => ?_, fun _ _ p hp => ?_⟩
      · rw [← line_eq, ← Reps.length r1, ← Reps.length r2]; exact hl
      · rw [← e2]
        refine fin hb ?_
        rw [(Reps.nil_iff r1).mpr hx]
        rcases h2 with h2 | ⟨_, _, h2⟩
        · exact h2
        · exact False.elim h2
      · rw [← e1]
        refine fin hb ?_
        rw [(Reps.nil_iff r2).mpr hy, List.append_nil]
        rcases h1 with h1 | ⟨_, _, h1⟩
        · exact h1
        · exact False.elim h1
      · obtain ⟨s', e3, e4, a', r'⟩ := new_tup ok hp (Reps.append r1 r2)
        rw [← e4]
        subst hb
        exact hQ s' _ e3 a'.ext a'.ok r'
    · cases hb
  · cases q <;> first | (exact absurd hq (by decide)) | skip
    split at hb
    · rename_i hl
      have hb := Option.some.inj hb
      obtain ⟨a, xs, e1, q1, r1⟩ := h1.lst
      obtain ⟨b, ys, e2, q2, r2⟩ := h2.lst
      refine ⟨_, op_catR, a, b, xs, ys, e1, e2, q1, q2, ?_, fun p hp => ?_⟩
      · rw [← line_eq, ← Reps.length r1, ← Reps.length r2]; exact hl
      · obtain ⟨s', e3, e4, a', r'⟩ := new_lst ok hp (Reps.append r1 r2)
        rw [← e4]
        subst hb
        exact hQ s' _ e3 a'.ext a'.ok r'
    · cases hb
  · cases q <;> first | (exact absurd hq (by decide)) | skip
    exact ⟨_, op_sub, _, _, h1.int, h2.int, fin (Option.some.inj hb) rep_int⟩
  · cases q <;> first | (exact absurd hq (by decide)) | skip
    split at hb
    · rename_i hl
      refine ⟨_, op_mul, _, _, h1.int, h2.int, ?_, fin (Option.some.inj hb) rep_int⟩
      rcases Bool.or_eq_true_iff.mp hl with hl | hl
      · exact .inl (small_mul hl)
      · exact .inr (small_mul hl)
    · cases hb
  · cases q <;> first | (exact absurd hq (by decide)) | skip
    split at hb
    · rename_i hl
      have hb := Option.some.inj hb
      simp only [Bool.and_eq_true, decide_eq_true_eq] at hl
      obtain ⟨a, xs, e1, q1, r1⟩ := h1.lst
      refine ⟨_, op_repR, a, _, xs, e1, h2.int, q1, by omega, by omega, ?_, fun p hp => ?_⟩
      · rw [← line_eq, ← Reps.length r1]; exact hl.1.1
      · obtain ⟨s', e3, e4, a', r'⟩ := new_lst ok hp (Reps.rep r1 _)
        rw [← e4]
        subst hb
        exact hQ s' _ e3 a'.ext a'.ok r'
    · cases hb
  · cases q <;> first | (exact absurd hq (by decide)) | skip
    split at hb
    · rename_i hl
      exact ⟨_, op_mod, _, _, h1.int, h2.int, hl, fin (Option.some.inj hb) rep_int⟩
    · cases hb
  · cases q <;> first | (exact absurd hq (by decide)) | skip
    split at hb
    · rename_i hl
      exact ⟨_, op_fdivW, _, _, h1.int, h2.int, hl, fin (Option.some.inj hb) rep_int⟩
    · cases hb
  · cases q <;> first | (exact absurd hq (by decide)) | skip
    split at hb
    · rename_i hl
      obtain ⟨l1, l2, l3⟩ := hl
      refine ⟨_, op_pow, _, _, h1.int, h2.int, ⟨l1, by omega, ?_⟩, fin (Option.some.inj hb) rep_int⟩
      unfold small at l3
      simpa only [decide_eq_true_eq] using l3
    · cases hb
  · cases q <;> first | (exact absurd hq (by decide)) | skip
    split at hb
    · rename_i hl
      exact ⟨_, op_shr, _, _, h1.int, h2.int, hl, fin (Option.some.inj hb) rep_int⟩
    · cases hb
  · cases hb
end
end Mi
namespace Mi
open PySem PySem.Spec L2
mutual
def toD : U → PyData
  | .non => .none
  | .bl b => .bool b
  | .int i => .int i
  | .str x => .str x
  | .tup xs => .tuple (toDL xs)
  | .lst xs => .list (toDL xs)
  | _ => .none
def toDL : List U → List PyData
  | [] => []
  | x :: xs => toD x :: toDL xs
end
theorem strOk_eq (x : Str) : strOk x = PySem.PyData.strOk x := rfl
mutual
theorem dat_lay : ∀ (u : U) (n : Nat), dat n u = true → (toD u).canLay0 = true ∧ (toD u).depth ≤ n
  | .non, _, _ => by simp [toD, PyData.canLay0, PyData.depth]
  | .bl _, _, _ => by simp [toD, PyData.canLay0, PyData.depth]
  | .int _, _, _ => by simp [toD, PyData.canLay0, PyData.depth]
  | .str x, _, h => by
    simp only [dat] at h
    simp only [toD, PyData.canLay0, PyData.depth]
    exact ⟨h, Nat.zero_le _⟩
  | .lst xs, n, h => by
    cases n with
    | zero => simp [dat] at h
    | succ m =>
      simp only [dat] at h
      have := datL_lay xs m h
      simp only [toD, PyData.canLay0, PyData.depth]
      exact ⟨this.1, Nat.succ_le_succ this.2⟩
  | .tup xs, n, h => by
    cases n with
    | zero => simp [dat] at h
    | succ m =>
      simp only [dat] at h
      have := datL_lay xs m h
      simp only [toD, PyData.canLay0, PyData.depth]
      exact ⟨this.1, Nat.succ_le_succ this.2⟩
  | .dct _, _, h => by simp [dat] at h
  | .obj _ _, _, h => by simp [dat] at h
  | .xc _ _, _, h => by simp [dat] at h
  | .ref _, _, h => by simp [dat] at h
  | .fn _, _, h => by simp [dat] at h
  | .clo _ _, _, h => by simp [dat] at h
  | .scr _, _, h => by simp [dat] at h
theorem datL_lay : ∀ (us : List U) (n : Nat), datL n us = true → PyData.canLayAll0 (toDL us) = true ∧ PyData.depthAll (toDL us) ≤ n
  | [], _, _ => by simp [toDL, PyData.canLayAll0, PyData.depthAll]
  | u :: us, n, h => by
    simp only [datL, Bool.and_eq_true] at h
    have h1 := dat_lay u n h.1
    have h2 := datL_lay us n h.2
    simp only [toDL, PyData.canLayAll0, PyData.depthAll, Bool.and_eq_true]
    exact ⟨⟨h1.1, h2.1⟩, Nat.max_le.mpr ⟨h1.2, h2.2⟩⟩
end
mutual
theorem eqv_eqb : ∀ (u w : U) (n m : Nat), dat n u = true → dat m w = true → PyData.eqv (toD u) (toD w) = eqb u w
  | .non, w, n, m, hu, hw => by cases w <;> first | (simp [dat] at hw; done) | simp [toD, PyData.eqv, eqb]
  | .bl b, w, n, m, hu, hw => by cases w <;> first | (simp [dat] at hw; done) | simp [toD, PyData.eqv, eqb]
  | .int b, w, n, m, hu, hw => by cases w <;> first | (simp [dat] at hw; done) | simp [toD, PyData.eqv, eqb]
  | .str b, w, n, m, hu, hw => by cases w <;> first | (simp [dat] at hw; done) | simp [toD, PyData.eqv, eqb]
  | .lst xs, w, n, m, hu, hw => by
    cases w <;> first | (simp [dat] at hw; done) | (simp [toD, PyData.eqv, eqb]; done) | skip
    cases n with
    | zero => simp [dat] at hu
    | succ n =>
      cases m with
      | zero => simp [dat] at hw
      | succ m =>
        simp only [dat] at hu hw
        simp only [toD, PyData.eqv, eqb]
        exact eqv_eqbL xs _ n m hu hw
  | .tup xs, w, n, m, hu, hw => by
    cases w <;> first | (simp [dat] at hw; done) | (simp [toD, PyData.eqv, eqb]; done) | skip
    cases n with
    | zero => simp [dat] at hu
    | succ n =>
      cases m with
      | zero => simp [dat] at hw
      | succ m =>
        simp only [dat] at hu hw
        simp only [toD, PyData.eqv, eqb]
        exact eqv_eqbL xs _ n m hu hw
  | .dct _, _, _, _, h, _ => by simp [dat] at h
  | .obj _ _, _, _, _, h, _ => by simp [dat] at h
  | .xc _ _, _, _, _, h, _ => by simp [dat] at h
  | .ref _, _, _, _, h, _ => by simp [dat] at h
  | .fn _, _, _, _, h, _ => by simp [dat] at h
  | .clo _ _, _, _, _, h, _ => by simp [dat] at h
  | .scr _, _, _, _, h, _ => by simp [dat] at h
theorem eqv_eqbL : ∀ (us ws : List U) (n m : Nat), datL n us = true → datL m ws = true → PyData.eqvAll (toDL us) (toDL ws) = eqbL us ws
  | [], [], _, _, _, _ => by simp [toDL, PyData.eqvAll, eqbL]
  | [], _ :: _, _, _, _, _ => by simp [toDL, PyData.eqvAll, eqbL]
  | _ :: _, [], _, _, _, _ => by simp [toDL, PyData.eqvAll, eqbL]
  | u :: us, w :: ws, n, m, hu, hw => by
    simp only [datL, Bool.and_eq_true] at hu hw
    simp only [toDL, PyData.eqvAll, eqbL]
    rw [eqv_eqb u w n m hu.1 hw.1, eqv_eqbL us ws n m hu.2 hw.2]
end
theorem toDL_map : ∀ us : List U, toDL us = us.map toD
  | [] => rfl
  | u :: us => by simp [toDL, toDL_map us]
section
variable {F : Fx} {z : Slots} {σ : L2.St} {W : WX} {t s : S0} {X : Cx}
mutual
theorem dat_dp (hK : F.K = X.K) : ∀ (u : U) (n : Nat) (v : V), dat n u = true → F.rep s u v → Dp X.K s.H v (toD u)
  | .non, _, v, _, r => by
    have r' := r; unfold Fx.rep at r'; simp only [Rep] at r'; subst r'; simp only [toD]; exact .non
  | .bl b, _, v, _, r => by
    have r' := r; unfold Fx.rep at r'; simp only [Rep] at r'; subst r'; simp only [toD]; exact .bl b
  | .int b, _, v, _, r => by
    have r' := r; unfold Fx.rep at r'; simp only [Rep] at r'; subst r'; simp only [toD]; exact .int b
  | .str b, _, v, _, r => by
    have r' := r; unfold Fx.rep at r'; simp only [Rep] at r'; subst r'; simp only [toD]; exact .str b
  | .lst xs, n, v, h, r => by
    cases n with
    | zero => simp [dat] at h
    | succ m =>
      simp only [dat] at h
      have r' := r; unfold Fx.rep at r'; simp only [Rep] at r'
      obtain ⟨a, vs, rfl, q, r2⟩ := r'
      simp only [toD]
      exact .lst (.inl q.2) (datL_dp hK xs m vs h r2)
  | .tup xs, n, v, h, r => by
    cases n with
    | zero => simp [dat] at h
    | succ m =>
      simp only [dat] at h
      have r' := r; unfold Fx.rep at r'; simp only [Rep] at r'
      obtain ⟨a, vs, rfl, q, r2⟩ := r'
      simp only [toD]
      refine .tup ?_ (datL_dp hK xs m vs h r2)
      rcases q with q | q
      · exact .inl q.2
      · rw [hK] at q; exact .inr q
  | .dct _, _, _, h, _ => by simp [dat] at h
  | .obj _ _, _, _, h, _ => by simp [dat] at h
  | .xc _ _, _, _, h, _ => by simp [dat] at h
  | .ref _, _, _, h, _ => by simp [dat] at h
  | .fn _, _, _, h, _ => by simp [dat] at h
  | .clo _ _, _, _, h, _ => by simp [dat] at h
  | .scr _, _, _, h, _ => by simp [dat] at h
theorem datL_dp (hK : F.K = X.K) : ∀ (us : List U) (n : Nat) (vs : List V), datL n us = true → F.reps s us vs → DpAll X.K s.H vs (toDL us)
  | [], _, [], _, _ => by simp only [toDL]; exact .nil
  | u :: us, n, v :: vs, h, r => by
    simp only [datL, Bool.and_eq_true] at h
    have r' := r; unfold Fx.reps at r'; simp only [Reps] at r'
    simp only [toDL]
    exact .cons (dat_dp hK u n v h.1 r'.1) (datL_dp hK us n vs h.2 r'.2)
  | [], _, _ :: _, _, r => by have r' := r; unfold Fx.reps at r'; simp only [Reps] at r'
  | _ :: _, _, [], _, r => by have r' := r; unfold Fx.reps at r'; simp only [Reps] at r'
end
theorem seen_dp (hK : F.K = X.K) {u : U} {n : Nat} {v : V} (h : dat n u = true) (r : Seen F s u v) : Dp X.K s.H v (toD u) := by
  rcases r with r | ⟨a, rfl, c⟩
  · exact dat_dp hK u n v h r
  · cases u with
    | lst xs =>
      cases n with
      | zero => simp [dat] at h
      | succ m =>
        simp only [dat] at h
        obtain ⟨vs, e, r⟩ := c
        simp only [toD]
        exact .lst (.inl (.inl e)) (datL_dp hK xs m vs h r)
    | obj c fs => simp [dat] at h
    | dct kvs => simp [dat] at h
    | _ => exact False.elim c
theorem shaped_of {u : U} (h : dat 16 u = true) : SeqAt.shaped (toD u) = true := by
  have l := dat_lay u 16 h
  unfold SeqAt.shaped
  rw [l.1]
  simp only [Bool.true_and, decide_eq_true_eq]
  omega
theorem any_eqb : ∀ (us : List U) (u : U) (n m : Nat), datL n us = true → dat m u = true → ((toDL us).any fun z => PyData.eqv z (toD u)) = elemU u us
  | [], _, _, _, _, _ => by simp [toDL, elemU]
  | w :: us, u, n, m, h, hu => by
    simp only [datL, Bool.and_eq_true] at h
    have := any_eqb us u n m h.2 hu
    unfold elemU at this ⊢
    simp only [toDL, List.any_cons]
    rw [this, eqv_eqb w u n m h.1 hu]
theorem flat_eq {u w : U} {v x : V} (hu : flatU u = true) (hw : flatU w = true) (r1 : F.rep s u v) (r2 : F.rep s w x) : flatV v = true ∧ flatV x = true ∧ eqV v x = eqb u w := by
  unfold Fx.rep at r1 r2
  cases u <;> first | (simp [flatU] at hu; done) | skip
  all_goals (cases w <;> first | (simp [flatU] at hw; done) | skip)
  all_goals (simp only [Rep] at r1 r2; subst r1; subst r2; simp [flatV, eqV, eqb])
theorem flat_any : ∀ {us : List U} {vs : List V} {u : U} {v : V}, flatU u = true → us.all flatU = true → F.rep s u v → F.reps s us vs → vs.all flatV = true ∧ inV v vs = elemU u us
  | [], [], _, _, _, _, _, _ => by simp [inV, elemU]
  | w :: us, x :: vs, u, v, hu, h, r, rs => by
    simp only [List.all_cons, Bool.and_eq_true] at h
    have rs' := rs; unfold Fx.reps at rs'; simp only [Reps] at rs'
    obtain ⟨a1, a2, a3⟩ := flat_eq h.1 hu rs'.1 r
    obtain ⟨b1, b2⟩ := flat_any hu h.2 r rs'.2
    unfold inV elemU at b2 ⊢
    simp only [List.all_cons, List.any_cons, a1, b1, a3, b2, Bool.and_self]
    exact ⟨trivial, trivial⟩
  | [], _ :: _, _, _, _, _, _, r => by have r' := r; unfold Fx.reps at r'; simp only [Reps] at r'
  | _ :: _, [], _, _, _, _, _, r => by have r' := r; unfold Fx.reps at r'; simp only [Reps] at r'
theorem asInts_map : ∀ {us : List U} {ns : List Int}, asInts us = some ns → us = ns.map .int
  | [], ns, h => by simp [asInts] at h; subst h; rfl
  | u :: us, ns, h => by
    cases u with
    | int i =>
      simp only [asInts] at h
      cases e : asInts us with
      | none => rw [e] at h; cases h
      | some ms =>
        rw [e] at h
        cases h
        rw [asInts_map e]; rfl
    | _ => simp [asInts] at h
theorem asBools_map : ∀ {us : List U} {ns : List Bool}, asBools us = some ns → us = ns.map .bl
  | [], ns, h => by simp [asBools] at h; subst h; rfl
  | u :: us, ns, h => by
    cases u with
    | bl i =>
      simp only [asBools] at h
      cases e : asBools us with
      | none => rw [e] at h; cases h
      | some ms =>
        rw [e] at h
        cases h
        rw [asBools_map e]; rfl
    | _ => simp [asBools] at h
theorem reps_int : ∀ {ns : List Int} {vs : List V}, F.reps s (ns.map .int) vs → vs = ns.map .int := fun h => Reps.map_int h
theorem reps_bl : ∀ {ns : List Bool} {vs : List V}, F.reps s (ns.map .bl) vs → vs = ns.map .bl
  | [], [], _ => rfl
  | n :: ns, v :: vs, h => by
    have h' := h; unfold Fx.reps at h'
    simp only [List.map_cons, Reps] at h'
    obtain ⟨h1, h2⟩ := h'
    simp only [Rep] at h1
    rw [h1, reps_bl h2]; rfl
  | [], _ :: _, h => by have h' := h; unfold Fx.reps at h'; simp only [List.map_nil, Reps] at h'
  | _ :: _, [], h => by have h' := h; unfold Fx.reps at h'; simp only [List.map_cons, Reps] at h'
theorem seen_non {u : U} {v : V} (r : Seen F s u v) : decide (v = .non) = isNon u := by
  rcases r with r | ⟨a, rfl, c⟩
  · have r' := r
    unfold Fx.rep at r'
    cases u <;> simp only [Rep] at r'
    · subst r'; rfl
    · subst r'; rfl
    · subst r'; rfl
    · subst r'; rfl
    · obtain ⟨a, vs, rfl, _⟩ := r'; rfl
    · obtain ⟨a, vs, rfl, _⟩ := r'; rfl
    · obtain ⟨a, vs, rfl, _⟩ := r'; rfl
    · obtain ⟨a, dx, fl, vs, rfl, _⟩ := r'; rfl
    · obtain ⟨a, _, rfl⟩ := r'; rfl
    · subst r'; rfl
    · obtain ⟨a, rfl, _⟩ := r'; rfl
  · cases u <;> first | exact False.elim c | rfl
theorem lst_sh {xs : List U} (h : datL 16 xs = true) : dat 17 (.lst xs) = true ∧ SeqAt.shaped (.list (toDL xs)) = true := by
  have hl : dat 17 (.lst xs) = true := by simp only [dat]; exact h
  refine ⟨hl, ?_⟩
  have l := dat_lay _ 17 hl
  simp only [toD] at l
  unfold SeqAt.shaped
  rw [l.1]
  simp only [Bool.true_and, decide_eq_true_eq]
  omega
theorem in_lst {u : U} {xs : List U} {v v' : V} {Q : VK} (hK : F.K = X.K) (hu : X.A.units + 65 < cLine) (hd : (dat 16 u && datL 16 xs) = true) (h1 : Seen F s u v) (h2 : Seen F s (.lst xs) v') :
    (Q (.bl (elemU u xs)) s.H → ∃ r : R2, OpR X (compareOp .In) r ∧ r v v' s.H Q) ∧ (Q (.bl (!elemU u xs)) s.H → ∃ r : R2, OpR X (compareOp .NotIn) r ∧ r v v' s.H Q) := by
  simp only [Bool.and_eq_true] at hd
  obtain ⟨hl, sh⟩ := lst_sh hd.2
  have dp := seen_dp hK hl h2
  simp only [toD] at dp
  refine ⟨fun hQ => ⟨_, op_inD hu, _, _, seen_dp hK hd.1 h1, dp, shaped_of hd.1, sh, ?_⟩, fun hQ => ⟨_, op_notInD hu, _, _, seen_dp hK hd.1 h1, dp, shaped_of hd.1, sh, ?_⟩⟩
  · rw [any_eqb _ _ _ _ hd.2 hd.1]; exact hQ
  · rw [any_eqb _ _ _ _ hd.2 hd.1]; exact hQ
theorem seen_flat {u : U} {v : V} (h : flatU u = true) (r : Seen F s u v) : F.rep s u v := by
  rcases r with r | ⟨_, _, c⟩
  · exact r
  · exfalso
    cases u <;> first | exact c | (simp [flatU] at h)
theorem in_tup {u : U} {xs : List U} {v v' : V} {Q : VK} (hK : F.K = X.K) (hd : (flatU u && xs.all flatU) = true) (h1 : Seen F s u v) (h2 : Seen F s (.tup xs) v') :
    (Q (.bl (elemU u xs)) s.H → ∃ r : R2, OpR X (compareOp .In) r ∧ r v v' s.H Q) ∧ (Q (.bl (!elemU u xs)) s.H → ∃ r : R2, OpR X (compareOp .NotIn) r ∧ r v v' s.H Q) := by
  simp only [Bool.and_eq_true] at hd
  obtain ⟨a, vs, e3, q1, r1⟩ := h2.tup
  rw [hK] at q1
  have h1' := seen_flat hd.1 h1
  obtain ⟨b1, b2⟩ := flat_any hd.1 hd.2 h1' r1
  have fv := (flat_eq hd.1 hd.1 h1' h1').1
  refine ⟨fun hQ => ⟨_, op_in_seq, a, vs, e3, .inr q1, fv, b1, ?_⟩, fun hQ => ⟨_, op_notIn_seq, a, vs, e3, .inr q1, fv, b1, ?_⟩⟩
  · simp only [Bool.false_eq_true, if_false]; rw [b2]; exact hQ
  · simp only [if_true]; rw [b2]; exact hQ
/-- comparisons of two things seen -/
theorem cop_ok {o : Cop} {q : CmpOp} {u u' : U} {v v' : V} {b : Bool} {Q : VK} (hK : F.K = X.K) (hu : X.A.units + 65 < cLine) (hq : copB o q = true) (h1 : Seen F s u v) (h2 : Seen F s u' v') (hb : cop o u u' = some b)
    (hQ : Q (.bl b) s.H) : ∃ r : R2, OpR X (compareOp q) r ∧ r v v' s.H Q := by
  unfold cop at hb
  split at hb <;> (cases q <;> first | (exact absurd hq (by decide)) | skip)
  · split at hb
    · rename_i hd
      simp only [Bool.and_eq_true] at hd
      have hb := Option.some.inj hb
      refine ⟨_, op_eqD (by omega), _, _, seen_dp hK hd.1 h1, seen_dp hK hd.2 h2, shaped_of hd.1, shaped_of hd.2, ?_⟩
      rw [eqv_eqb _ _ _ _ hd.1 hd.2, hb]; exact hQ
    · cases hb
  · split at hb
    · rename_i hd
      simp only [Bool.and_eq_true] at hd
      have hb := Option.some.inj hb
      refine ⟨_, op_neD (by omega), _, _, seen_dp hK hd.1 h1, seen_dp hK hd.2 h2, shaped_of hd.1, shaped_of hd.2, ?_⟩
      rw [eqv_eqb _ _ _ _ hd.1 hd.2, hb]; exact hQ
    · cases hb
  · cases hb; exact ⟨_, op_lt, _, _, h1.int, h2.int, hQ⟩
  · rename_i xs ys
    cases e1 : asInts xs with
    | none => rw [e1] at hb; cases hb
    | some ns =>
      cases e2 : asInts ys with
      | none => rw [e1, e2] at hb; cases hb
      | some ms =>
        rw [e1, e2] at hb
        have hb := Option.some.inj hb
        obtain ⟨a, vs, e3, q1, r1⟩ := h1.tup
        obtain ⟨c, ws, e4, q2, r2⟩ := h2.tup
        rw [asInts_map e1] at r1
        rw [asInts_map e2] at r2
        rw [reps_int r1, hK] at q1
        rw [reps_int r2, hK] at q2
        have hb : HT.lexLt ns ms = b := hb
        exact ⟨_, op_ltT (by omega), a, c, ns, ms, e3, e4, q1, q2, by rw [hb]; exact hQ⟩
  · cases hb; exact ⟨_, op_le, _, _, h1.int, h2.int, hQ⟩
  · cases hb; exact ⟨_, op_gt, _, _, h1.int, h2.int, hQ⟩
  · cases hb; exact ⟨_, op_ge, _, _, h1.int, h2.int, hQ⟩
  · cases hb; exact ⟨_, op_isN, h2.non, by rw [seen_non h1]; exact hQ⟩
  · cases hb
    refine ⟨_, op_notN, h2.non, ?_⟩
    rw [seen_non h1]
    exact hQ
  · cases hb; exact ⟨_, op_isBl, _, _, h1.bl, h2.bl, hQ⟩
  · cases hb; exact ⟨_, op_notBl, _, _, h1.bl, h2.bl, hQ⟩
  · cases hb; exact ⟨_, op_in_str, _, _, h1.str, h2.str, hQ⟩
  · cases hb; exact ⟨_, op_notin_str, _, _, h1.str, h2.str, hQ⟩
  · split at hb
    · rename_i hd
      cases hb
      exact (in_lst hK hu hd h1 h2).1 hQ
    · cases hb
  · split at hb
    · rename_i hd
      cases hb
      exact (in_tup hK hd h1 h2).1 hQ
    · cases hb
  · split at hb
    · rename_i hd
      cases hb
      exact (in_lst hK hu hd h1 h2).2 hQ
    · cases hb
  · split at hb
    · rename_i hd
      cases hb
      exact (in_tup hK hd h1 h2).2 hQ
    · cases hb
  · split at hb
    · rename_i hk
      cases hb
      obtain ⟨a, l, rfl, q, r⟩ := h2.dct
      obtain rfl := key_val hk h1
      have kl := key_look hk r
      refine ⟨_, op_din (by omega), a, valV l (keyK _), rfl, .inl ⟨l, _, q, rfl, rfl⟩, ?_⟩
      cases e : lkup _ _ with
      | none => rw [e] at kl hQ; rw [kl]; exact hQ
      | some w =>
        rw [e] at kl hQ
        obtain ⟨w', e2, _⟩ := kl
        rw [e2]; exact hQ
    · cases hb
  · split at hb
    · rename_i hk
      cases hb
      obtain ⟨a, l, rfl, q, r⟩ := h2.dct
      obtain rfl := key_val hk h1
      have kl := key_look hk r
      refine ⟨_, op_dnotin (by omega), a, valV l (keyK _), rfl, .inl ⟨l, _, q, rfl, rfl⟩, ?_⟩
      cases e : lkup _ _ with
      | none => rw [e] at kl hQ; rw [kl]; exact hQ
      | some w =>
        rw [e] at kl hQ
        obtain ⟨w', e2, _⟩ := kl
        rw [e2]; exact hQ
    · cases hb
  all_goals cases hb
end
end Mi
namespace Mi
open PySem PySem.Spec L2
section
variable {F : Fx} {z : Slots} {σ : L2.St} {W : WX} {t s : S0} {X : Cx}
def SeenL (F : Fx) (s : S0) : List U → List V → Prop
  | [], [] => True
  | u :: us, v :: vs => Seen F s u v ∧ SeenL F s us vs
  | _, _ => False
theorem SeenL.one {u : U} {vs : List V} (h : SeenL F s [u] vs) : ∃ v, vs = [v] ∧ Seen F s u v := by
  cases vs with
  | nil => exact False.elim h
  | cons v r =>
    cases r with
    | nil => exact ⟨v, rfl, h.1⟩
    | cons _ _ => exact False.elim h.2
theorem SeenL.two {u w : U} {vs : List V} (h : SeenL F s [u, w] vs) : ∃ v x, vs = [v, x] ∧ Seen F s u v ∧ Seen F s w x := by
  cases vs with
  | nil => exact False.elim h
  | cons v r =>
    obtain ⟨x, rfl, q⟩ := SeenL.one (u := w) (vs := r) h.2
    exact ⟨v, x, rfl, h.1, q⟩
/-- what stands by a built-in's name -/
def bfV : Bf → Value
  | .tuple => .type "tuple"
  | .list => .type "list"
  | .dict => .type "dict"
  | .str => .type "str"
  | .int => .type "int"
  | .bool => .type "bool"
  | .len => .builtin "len"
  | .abs => .builtin "abs"
  | .min => .builtin "min"
  | .max => .builtin "max"
  | .sum => .builtin "sum"
  | .all => .builtin "all"
  | .any => .builtin "any"
  | .sorted => .builtin "sorted"
  | .repr => .builtin "repr"
  | .divmod => .builtin "divmod"
  | _ => .none
theorem fz_of {w : U} {y : V} {Q : VK} (ok : Ok F s z σ) (hQ : Post F z σ W s (RepE F z σ) Q (.ok (.fz w) s.h)) (r : F.rep s w y) : Q y s.H := hQ s y rfl ExtS.refl ok r
/-- built-in functions of what is seen -/
theorem bfun_ok {b : Bf} {us : List U} {vs : List V} {e : E} {Q : VK} (hK : F.K = X.K) (hc : X.calm = true) (ok : Ok F s z σ) (h : SeenL F s us vs) (hb : bfun b us = some e)
    (hQ : Post F z σ W s (RepE F z σ) Q (.ok e s.h)) : ∃ r : List V → Hp → VK → Prop, CallR X (bfV b) r ∧ r vs s.H Q := by
  unfold bfun at hb
  split at hb
  · cases hb
    obtain ⟨v, rfl, q⟩ := h.one
    obtain ⟨a, xs, rfl, q1, r⟩ := q.tup
    rw [hK] at q1
    refine ⟨_, call_len, .ref a, xs.length, rfl, .inr ⟨xs, q1, rfl⟩, ?_⟩
    rw [← Reps.length r]
    exact fz_of ok hQ rep_int
  · cases hb
    obtain ⟨v, rfl, q⟩ := h.one
    obtain ⟨a, xs, rfl, q1, r⟩ := q.lst
    refine ⟨_, call_len, .ref a, xs.length, rfl, .inl ⟨xs, .inl q1, rfl⟩, ?_⟩
    rw [← Reps.length r]
    exact fz_of ok hQ rep_int
  · cases hb
    obtain ⟨v, rfl, q⟩ := h.one
    obtain ⟨a, rfl, q1⟩ := q.scr
    rw [hK] at q1
    refine ⟨_, call_len, .ref a, _, rfl, .inl ⟨_, q1, rfl⟩, ?_⟩
    rw [List.length_map]
    exact fz_of ok hQ rep_int
  · split at hb
    · rename_i hl
      cases hb
      obtain ⟨v, rfl, q⟩ := h.one
      obtain rfl := q.str
      exact ⟨_, call_len, _, _, rfl, ⟨by rw [← line_eq]; exact hl, rfl⟩, fz_of ok hQ rep_int⟩
    · cases hb
  · cases hb
    obtain ⟨v, rfl, q⟩ := h.one
    obtain rfl := q.int
    exact ⟨_, call_abs, _, rfl, fz_of ok hQ rep_int⟩
  · cases hb
    obtain ⟨v, x, rfl, q1, q2⟩ := h.two
    obtain rfl := q1.int
    obtain rfl := q2.int
    refine ⟨_, call_min2 hc, _, _, rfl, ?_⟩
    have e : ∀ i j : Int, (if j < i then j else i) = min i j := fun i j => by omega
    rw [e]
    exact fz_of ok hQ rep_int
  · cases hb
    obtain ⟨v, x, rfl, q1, q2⟩ := h.two
    obtain rfl := q1.int
    obtain rfl := q2.int
    refine ⟨_, call_max2 hc, _, _, rfl, ?_⟩
    have e : ∀ i j : Int, (if j > i then j else i) = max i j := fun i j => by omega
    rw [e]
    exact fz_of ok hQ rep_int
  · rename_i xs
    cases e1 : asInts xs with
    | none => rw [e1] at hb; cases hb
    | some ns =>
      rw [e1] at hb
      cases hb
      obtain ⟨v, rfl, q⟩ := h.one
      obtain ⟨a, ys, rfl, q1, r⟩ := q.lst
      rw [asInts_map e1] at r
      rw [reps_int r] at q1
      exact ⟨_, cr_sum hc, a, ns, rfl, .inl q1, fz_of ok hQ rep_int⟩
  · rename_i xs
    cases e1 : asBools xs with
    | none => rw [e1] at hb; cases hb
    | some ns =>
      rw [e1] at hb
      cases hb
      obtain ⟨v, rfl, q⟩ := h.one
      obtain ⟨a, ys, rfl, q1, r⟩ := q.lst
      rw [asBools_map e1] at r
      rw [reps_bl r] at q1
      exact ⟨_, cr_all hc, a, ns, rfl, .inl q1, fz_of ok hQ rep_bl⟩
  · rename_i xs
    cases e1 : asBools xs with
    | none => rw [e1] at hb; cases hb
    | some ns =>
      rw [e1] at hb
      cases hb
      obtain ⟨v, rfl, q⟩ := h.one
      obtain ⟨a, ys, rfl, q1, r⟩ := q.lst
      rw [asBools_map e1] at r
      rw [reps_bl r] at q1
      exact ⟨_, cr_any hc, a, ns, rfl, .inl q1, fz_of ok hQ rep_bl⟩
  · cases hb
    obtain ⟨v, rfl, q⟩ := h.one
    obtain ⟨a, xs, rfl, q1, r⟩ := q.lst
    refine ⟨_, call_tuple_of, a, xs, rfl, .inl ⟨.inl q1, fun l hl => ?_⟩⟩
    obtain ⟨s', e3, e4, a', r'⟩ := new_tup ok hl r
    rw [← e4]
    exact hQ s' _ e3 a'.ext a'.ok r'
  · cases hb
    obtain ⟨v, rfl, q⟩ := h.one
    have q' := q
    obtain ⟨a, xs, rfl, q1, r⟩ := q.tup
    rw [hK] at q1
    refine ⟨_, call_tuple_of, a, xs, rfl, .inr ⟨q1, ?_⟩⟩
    rcases q' with q' | ⟨_, _, c⟩
    · exact fz_of ok hQ q'
    · exact False.elim c
  · cases hb
    obtain ⟨v, rfl, q⟩ := h.one
    obtain ⟨a, xs, rfl, q1, r⟩ := q.lst
    refine ⟨_, call_list_of, a, xs, rfl, .inl (.inl q1), fun l hl => ?_⟩
    obtain ⟨s', e3, e4, a', r'⟩ := new_lst ok hl r
    rw [← e4]
    exact hQ s' _ e3 a'.ext a'.ok r'
  · cases hb
    obtain ⟨v, rfl, q⟩ := h.one
    obtain ⟨a, xs, rfl, q1, r⟩ := q.tup
    rw [hK] at q1
    refine ⟨_, call_list_of, a, xs, rfl, .inr q1, fun l hl => ?_⟩
    obtain ⟨s', e3, e4, a', r'⟩ := new_lst ok hl r
    rw [← e4]
    exact hQ s' _ e3 a'.ext a'.ok r'
  · split at hb
    · rename_i hl
      cases hb
      obtain ⟨v, rfl, q⟩ := h.one
      obtain rfl := q.int
      exact ⟨_, call_str_int, _, rfl, hl, fz_of ok hQ rep_str⟩
    · cases hb
  · cases hb
    obtain ⟨v, rfl, q⟩ := h.one
    obtain rfl := q.int
    exact ⟨_, call_int1, .inl ⟨_, rfl, fz_of ok hQ rep_int⟩⟩
  · cases hb
    obtain ⟨v, rfl, q⟩ := h.one
    obtain rfl := q.bl
    exact ⟨_, call_int1, .inr ⟨_, rfl, fz_of ok hQ rep_int⟩⟩
  · split at hb
    · rename_i x hl
      cases e1 : PySem.intText? x with
      | none => rw [e1] at hb; cases hb
      | some i =>
        rw [e1] at hb
        cases hb
        obtain ⟨v, rfl, q⟩ := h.one
        obtain rfl := q.str
        exact ⟨_, call_int_str, _, _, rfl, e1, hl, fz_of ok hQ rep_int⟩
    · cases hb
  · split at hb
    · rename_i hl
      cases hb
      obtain ⟨v, x, rfl, q1, q2⟩ := h.two
      obtain rfl := q1.int
      obtain rfl := q2.int
      refine ⟨_, call_divmod, _, _, rfl, hl, fun p hp => ?_⟩
      have r0 : ∀ i j : Int, F.reps s [.int i, .int j] [.int i, .int j] := fun i j => by
        unfold Fx.reps
        simp only [Reps, Rep, and_self]
      obtain ⟨s', e3, e4, a', r'⟩ := new_tup ok hp (r0 _ _)
      rw [← e4]
      exact hQ s' _ e3 a'.ext a'.ok r'
    · cases hb
  · cases hb
end
end Mi
namespace Mi
open PySem PySem.Spec L2
section
variable {F : Fx} {z : Slots} {σ : L2.St} {W : WX} {t s : S0} {X : Cx}
theorem see2_some {α : Type} {h : CH} {e e' : E} {f : U → U → Option α} {a : α} (k : see2 z h e e' f = some a) : ∃ u v, e.see z h = some u ∧ e'.see z h = some v ∧ f u v = some a := by
  unfold see2 at k
  cases h1 : e.see z h with
  | none => rw [h1] at k; cases k
  | some u =>
    cases h2 : e'.see z h with
    | none => rw [h1, h2] at k; cases k
    | some v =>
      rw [h1, h2] at k
      exact ⟨u, v, rfl, rfl, k⟩
theorem vis_of {nm : Nm → Str} {df : Fk → Bool} {P : Prog} {n : Nat} {m : ME} (g : Good nm df P n F X m W) {i : Nat} {x : Str} (h : visB m i x = true) : X.N[i]? = some x ∧ Vis X.env.scope x ∧ (x == ("__debug__" : Str)) = false ∧ (x == ("__classdict__" : Str)) = false := by
  unfold visB kd at h
  simp only [Bool.and_eq_true, Bool.or_eq_true, decide_eq_true_eq, Bool.not_eq_true'] at h
  rw [g.hN, g.sc]
  obtain ⟨⟨⟨h1, h2⟩, h3⟩, h4⟩ := h
  exact ⟨h1, by rcases h2 with (h2 | h2) | h2 <;> simp [Vis, h2], h3, h4⟩
theorem gl_of {nm : Nm → Str} {df : Fk → Bool} {P : Prog} {n : Nat} {m : ME} (g : Good nm df P n F X m W) {x : Str} (h : glB m x = true) : Gl X x ∧ (x == ("__debug__" : Str)) = false := by
  unfold glB kd at h
  simp only [Bool.and_eq_true, decide_eq_true_eq, Bool.not_eq_true'] at h
  refine ⟨?_, h.2⟩
  show X.env.scope.names.lookup x = _
  rw [g.sc]
  exact h.1
theorem star_of {e : Expr} (h : starB e = false) (es : List Expr) (env : Env) : starEach (e :: es) env = (false, eval e env) :: starEach es env := by
  cases e <;> first | rfl | (simp [starB] at h)
theorem plain_of {nm : Nm → Str} {df : Fk → Bool} {m : ME} : ∀ (es : List Expr) {cs : List CE}, MMs nm df m cs es → ∀ (pos : Pos) (env : Env), (backTo pos (starEach es env)).any (·.1) = false
  | [], _, _, _, _ => rfl
  | e :: es, _, h, pos, env => by
    cases h with
    | cons h1 h2 h3 =>
      rw [star_of h1]
      show (false || _) = false
      rw [Bool.false_or]
      exact plain_of es h3 pos env
theorem lnb {q : CmpOp} {y : Expr} (h : behindInMarks q y = false) : behindInMarks q y = false := h
theorem last_of {q q' : CmpOp} {y w : Expr} (h : behindInMarks q' w = false) : lastMarks [q, q'] [y, w] = false := by
  show behindInMarks q' w = false
  exact h
theorem Ok.units {nm : Nm → Str} {df : Fk → Bool} {P : Prog} {n : Nat} {m : ME} (g : Good nm df P n F X m W) : X.A.units + 65 < cLine := by
  have := g.room.un
  omega
theorem bfS_boot {b : Bf} (h : bfG b = true) : (∃ id, bfV b = .builtin id ∧ bootBuiltins (bfS b) = some (.builtin id)) ∨ ∃ T, bfV b = .type T ∧ bootBuiltins (bfS b) = some (.type T) := by
  cases b <;> first
    | exact .inl ⟨_, rfl, by decide +kernel⟩
    | exact .inr ⟨_, rfl, by decide +kernel⟩
    | (simp [bfG] at h)
theorem bfS_name {b : Bf} (h : bfG b = true) : bfS b ≠ "__name__" ∧ (bfS b == ("__debug__" : Str)) = false := by
  cases b <;> first | exact ⟨by decide +kernel, by decide +kernel⟩ | (simp [bfG] at h)
theorem bfS_in {b : Bf} (h : bfG b = true) : bfS b ∈ (["len", "abs", "min", "max", "sum", "all", "any", "tuple", "list", "dict", "sorted", "repr", "str", "int", "bool", "divmod", "isinstance", "range", "enumerate", "zip", "reversed", "set"] : List Str) := by
  cases b <;> first | (simp [bfG] at h; done) | simp [bfS]
/-- the type of a thing seen -/
def knS : Kn → String
  | .non => "NoneType"
  | .bool => "bool"
  | .int => "int"
  | .str => "str"
  | .tuple => "tuple"
  | .list => "list"
  | .dict => "dict"
def tyN : Ty → String
  | .int => "int"
  | .bool => "bool"
  | .str => "str"
  | .list => "list"
  | .tuple => "tuple"
  | .dict => "dict"
theorem kn_kit (k : Kn) (t : Ty) : kitB (knS k) (tyN t) = some (knTy k t) := by
  cases k <;> cases t <;> decide +kernel
theorem seen_ty (hK : F.K = X.K) {u : U} {v : V} {k : Kn} (h : knd u = some k) (r : Seen F s u v) : TyX X.K s.H v (.type (knS k)) := by
  cases u with
  | non => cases h; obtain rfl := r.non; exact .base .non
  | bl b => cases h; obtain rfl := r.bl; exact .base (.bl _)
  | int b => cases h; obtain rfl := r.int; exact .base (.int _)
  | str b => cases h; obtain rfl := r.str; exact .base (.str _)
  | tup xs =>
    cases h
    obtain ⟨a, vs, rfl, q, _⟩ := r.tup
    rw [hK] at q
    rcases q with q | ⟨o, its, nn, e, c, _⟩
    · rcases q with q | ⟨o, q⟩
      · exact .base (.tup q)
      · exact .fTuple q
    · exact .kTuple e c
  | lst xs =>
    cases h
    obtain ⟨a, vs, rfl, q, _⟩ := r.lst
    rcases q with q | ⟨o, q⟩
    · exact .base (.lst q)
    · exact .base (.frz q)
  | dct kvs =>
    cases h
    obtain ⟨a, l, rfl, q, _⟩ := r.dct
    rcases q with q | ⟨o, q⟩
    · exact .base (.dK q)
    · exact .fDict q
  | _ => cases h
theorem ix_ok {u u' w : U} {v v' : V} {Q : VK} (hu : X.A.units + 1 < cLine) (hK : F.K = X.K) (ok : Ok F s z σ) (h1 : Seen F s u v) (h2 : Seen F s u' v') (hb : getIx u u' = some w) (hQ : Post F z σ W s (RepE F z σ) Q (.ok (.fz w) s.h)) : ∃ r : R2, IxR X r ∧ r v v' s.H Q := by
  have at_map : ∀ {xs : List U} {vs : List V} {i : Int}, F.reps s xs vs → L2.atI xs i = some w → ∃ y, L2.atI vs i = some y ∧ F.rep s w y := fun {xs vs i} r e => by
    unfold L2.atI at e ⊢
    rw [← Reps.length r]
    cases e1 : L2.ixN xs.length i with
    | none => rw [e1] at e; cases e
    | some j =>
      rw [e1] at e
      exact Reps.get r e
  unfold getIx at hb
  split at hb
  · obtain ⟨a, vs, rfl, q, r⟩ := h1.tup
    obtain rfl := h2.int
    rw [hK] at q
    obtain ⟨y, e1, ry⟩ := at_map r hb
    exact ⟨_, ix_tup, a, vs, _, y, rfl, rfl, q, e1, fz_of ok hQ ry⟩
  · obtain ⟨a, vs, rfl, q, r⟩ := h1.lst
    obtain rfl := h2.int
    obtain ⟨y, e1, ry⟩ := at_map r hb
    exact ⟨_, ix_list, a, vs, _, y, rfl, rfl, .inl q, e1, fz_of ok hQ ry⟩
  · split at hb
    · rename_i x i hl
      cases e1 : L2.atI x.cps.toList i with
      | none => rw [e1] at hb; cases hb
      | some c =>
        rw [e1] at hb
        cases hb
        obtain rfl := h1.str
        obtain rfl := h2.int
        exact ⟨_, ix_str, _, _, c, rfl, rfl, by rw [← line_eq]; exact hl, e1, fz_of ok hQ rep_str⟩
    · cases hb
  · split at hb
    · rename_i hk
      obtain ⟨a, l, rfl, q, r⟩ := h1.dct
      obtain rfl := key_val hk h2
      have kl := key_look hk r
      rw [hb] at kl
      obtain ⟨w', e2, rw'⟩ := kl
      exact ⟨_, ix_dget hu, a, w', rfl, .inl ⟨l, _, q, rfl, e2.symm⟩, fz_of ok hQ rw'⟩
    · cases hb
  · obtain ⟨a, rfl, q⟩ := h1.scr
    obtain rfl := h2.int
    rw [hK] at q
    rename_i ns i
    cases e1 : L2.atI ns i with
    | none => rw [e1] at hb; cases hb
    | some c =>
      rw [e1] at hb
      cases hb
      refine ⟨_, ix_list, a, _, _, .int c, rfl, rfl, q, ?_, fz_of ok hQ rep_int⟩
      unfold L2.atI at e1 ⊢
      rw [List.length_map]
      cases e2 : ixN ns.length i with
      | none => rw [e2] at e1; cases e1
      | some j =>
        rw [e2] at e1
        have e1 : ns[j]? = some c := e1
        show (ns.map V.int)[j]? = _
        rw [List.getElem?_map, e1]
        rfl
  · cases hb
theorem sl_ok {u : U} {e : E} {v : V} {lo hi : Option Int} {Q : VK} (hK : F.K = X.K) (ok : Ok F s z σ) (h1 : Seen F s u v) (hb : sliced u lo hi = some e) (hQ : Post F z σ W s (RepE F z σ) Q (.ok e s.h)) :
    ∃ r : V → Option Int → Option Int → Hp → VK → Prop, SlR X r ∧ r v lo hi s.H Q := by
  have cutr : ∀ {xs : List U} {vs : List V}, F.reps s xs vs → F.reps s (cut xs lo hi) (cutV vs lo hi) := fun {xs vs} r => by
    unfold cut cutV
    rw [← Reps.length r]
    exact Reps.take _ (Reps.drop _ r)
  cases u with
  | tup xs =>
    cases hb
    have h1' := h1
    obtain ⟨a, vs, rfl, q, r⟩ := h1.tup
    rw [hK] at q
    refine ⟨_, sl_tupA, a, vs, rfl, q, fun hw => ?_, fun _ p hp => ?_⟩
    · have e1 : cut xs lo hi = xs := by
        unfold cut
        rw [Reps.length r, hw.1, hw.2, ← Reps.length r]
        simp
      refine fz_of ok hQ ?_
      rw [e1]
      rcases h1' with h | ⟨_, _, c⟩
      · exact h
      · exact False.elim c
    · obtain ⟨s', e3, e4, a', r'⟩ := new_tup ok hp (cutr r)
      rw [← e4]
      exact hQ s' _ e3 a'.ext a'.ok r'
  | lst xs =>
    cases hb
    obtain ⟨a, vs, rfl, q, r⟩ := h1.lst
    refine ⟨_, sl_list, a, vs, rfl, .inl q, fun p hp => ?_⟩
    obtain ⟨s', e3, e4, a', r'⟩ := new_lst ok hp (cutr r)
    rw [← e4]
    exact hQ s' _ e3 a'.ext a'.ok r'
  | scr ns =>
    cases hb
    obtain ⟨a, rfl, q⟩ := h1.scr
    rw [hK] at q
    refine ⟨_, sl_list, a, _, rfl, q, fun p hp => ?_⟩
    have r : F.reps s (ns.map .int) (ns.map V.int) := by
      unfold Fx.reps
      clear q h1 hQ
      induction ns with
      | nil => simp only [List.map_nil, Reps]
      | cons n r ih =>
        simp only [List.map_cons, Reps, Rep]
        exact ⟨trivial, ih⟩
    obtain ⟨s', e3, e4, a', r'⟩ := new_lst ok hp (cutr r)
    rw [← e4]
    exact hQ s' _ e3 a'.ext a'.ok r'
  | str x =>
    unfold sliced at hb
    simp only at hb
    split at hb
    · rename_i hl
      cases hb
      obtain rfl := h1.str
      exact ⟨_, sl_str, _, rfl, by rw [← line_eq]; exact hl, fz_of ok hQ rep_str⟩
    · cases hb
  | _ => cases hb
end
end Mi
namespace Mi
open PySem PySem.Spec L2
theorem tslots_tp (ts : List Tgt) : tslots (.tp ts) = tslotss ts := by simp only [tslots]
section
variable {X : Cx}
/-! ### targets -/
mutual
def gOf (K : PySem.W.Frag) : Tgt → TG
  | .nm i => gName i
  | .tp ts => gTup K ts.length (gsOf K ts)
def gsOf (K : PySem.W.Frag) : List Tgt → TGs
  | [] => gNil
  | t :: ts => gCons (gOf K t) (gsOf K ts)
end
theorem assignEach_of {e : Expr} (h : starB e = false) (es : List Expr) (env : Env) : assignEach (e :: es) env = (false, assign e env) :: assignEach es env := by
  cases e <;> first | rfl | (simp [starB] at h)
theorem MGs.plain {m : ME} : ∀ {ts : List Tgt} {es : List Expr}, MGs m ts es → ∀ env : Env, (assignEach es env).length = ts.length ∧ (assignEach es env).findIdx? (·.1) = none
  | [], _, h, env => by cases h; exact ⟨rfl, rfl⟩
  | t :: ts, _, h, env => by
    cases h with
    | cons h1 h2 h3 =>
      obtain ⟨a, b⟩ := MGs.plain h3 env
      rw [assignEach_of h1]
      refine ⟨by simp [a], ?_⟩
      rw [List.findIdx?_cons, b]
      rfl
mutual
theorem pgOf {m : ME} (hN : X.N = m.N) (hs : X.env.scope = m.sc) (hf : X.fn = m.fn) (nd : m.N.Nodup) (hc : X.calm = true) : ∀ (g : Tgt) {e : Expr}, MG m g e → PG X e (gOf X.K g)
  | .nm i, e, h => by
    cases h with
    | nm hl =>
      unfold locB kd at hl
      simp only [Bool.and_eq_true, Bool.or_eq_true, decide_eq_true_eq] at hl
      obtain ⟨h1, h2⟩ := hl
      simp only [gOf]
      refine pg_name (by rw [hN]; exact nd) (by rw [hN]; exact h1) ?_ ?_
      · rw [hs]
        rcases h2 with h2 | ⟨h2, _⟩
        · exact .inl h2
        · exact .inr h2
      · rw [hs, hf]
        rcases h2 with h2 | ⟨_, h2⟩
        · exact .inr h2
        · exact .inl h2
  | .tp ts, e, h => by
    cases h with
    | tp hg =>
      simp only [gOf]
      obtain ⟨a, b⟩ := MGs.plain hg X.env
      exact pg_tup hc (pgsOf hN hs hf nd hc ts hg) a b
theorem pgsOf {m : ME} (hN : X.N = m.N) (hs : X.env.scope = m.sc) (hf : X.fn = m.fn) (nd : m.N.Nodup) (hc : X.calm = true) : ∀ (ts : List Tgt) {es : List Expr}, MGs m ts es → PGs X es (gsOf X.K ts)
  | [], es, h => by
    cases h
    simp only [gsOf]
    exact pgs_nil
  | t :: ts, es, h => by
    cases h with
    | cons h1 h2 h3 =>
      simp only [gsOf]
      exact pgs_cons (pgOf hN hs hf nd hc t h2) (pgsOf hN hs hf nd hc ts h3) (by rw [assignEach_of h1]; rfl)
end
end
section
variable {F : Fx} {z : Slots} {σ : L2.St} {t s : S0}
/-- the slots behind a target's stores -/
structure Bound (F : Fx) (s : S0) (sl : List Nat) (z z1 : Slots) (σ σ1 : L2.St) : Prop where
  lz : z1.length = z.length
  ls : σ1.length = σ.length
  oz : ∀ i, i ∉ sl → z1[i]? = z[i]?
  os : ∀ i, i ∉ sl → σ1[i]? = σ[i]?
  val : ∀ i, i ∈ sl → ∃ w v, z1[i]? = some (some (.val w)) ∧ σ1[i]? = some (some v) ∧ F.rep s w v
theorem Bound.trans {sl sl' : List Nat} {z z1 z2 : Slots} {σ σ1 σ2 : L2.St} (a : Bound F s sl z z1 σ σ1) (b : Bound F s sl' z1 z2 σ1 σ2) : Bound F s (sl ++ sl') z z2 σ σ2 where
  lz := b.lz.trans a.lz
  ls := b.ls.trans a.ls
  oz := fun i h => by
    simp only [List.mem_append, not_or] at h
    rw [b.oz i h.2, a.oz i h.1]
  os := fun i h => by
    simp only [List.mem_append, not_or] at h
    rw [b.os i h.2, a.os i h.1]
  val := fun i h => by
    by_cases h2 : i ∈ sl'
    · exact b.val i h2
    · have h1 : i ∈ sl := by
        rcases List.mem_append.mp h with q | q
        · exact q
        · exact absurd q h2
      obtain ⟨w, v, e1, e2, r⟩ := a.val i h1
      exact ⟨w, v, by rw [b.oz i h2]; exact e1, by rw [b.os i h2]; exact e2, r⟩
mutual
theorem gOf_ok : ∀ (g : Tgt) {u : U} {v : V} {z z1 : Slots} {σ : L2.St} {Q : L2.St → Hp → Prop}, F.rep s u v → bindT g u z = some z1 → z.length = σ.length → (∀ σ1, Bound F s (tslots g) z z1 σ σ1 → Q σ1 s.H) → gOf F.K g v σ s.H Q
  | .nm i, u, v, z, z1, σ, Q, r, hb, hl, hq => by
    simp only [bindT] at hb
    split at hb
    · rename_i hi
      cases hb
      simp only [gOf]
      show Q (σ.set i (some v)) s.H
      refine hq _ ⟨by simp, by simp, fun j hj => ?_, fun j hj => ?_, fun j hj => ?_⟩
      · simp only [tslots, List.mem_singleton] at hj
        rw [List.getElem?_set_ne (Ne.symm hj)]
      · simp only [tslots, List.mem_singleton] at hj
        rw [List.getElem?_set_ne (Ne.symm hj)]
      · simp only [tslots, List.mem_singleton] at hj
        subst hj
        exact ⟨u, v, by rw [List.getElem?_set_self hi], by rw [List.getElem?_set_self (by omega)], r⟩
    · cases hb
  | .tp ts, u, v, z, z1, σ, Q, r, hb, hl, hq => by
    cases u with
    | tup xs =>
      simp only [bindT] at hb
      obtain ⟨a, vs, rfl, q, r2⟩ : ∃ a vs, v = .ref a ∧ SqT F.K s.H a vs ∧ F.reps s xs vs := by
        have r' := r
        unfold Fx.rep at r'
        simp only [Rep] at r'
        obtain ⟨a, vs, e, q, r2⟩ := r'
        exact ⟨a, vs, e, q.elim (fun q => .inl q.2) .inr, r2⟩
      simp only [gOf]
      obtain ⟨k1, k2⟩ := gsOf_ok ts r2 hb hl (by rw [← tslots_tp]; exact hq)
      exact ⟨a, vs, rfl, q, k1, k2⟩
    | _ => simp [bindT] at hb
theorem gsOf_ok : ∀ (ts : List Tgt) {us : List U} {vs : List V} {z z1 : Slots} {σ : L2.St} {Q : L2.St → Hp → Prop}, F.reps s us vs → bindTs ts us z = some z1 → z.length = σ.length → (∀ σ1, Bound F s (tslotss ts) z z1 σ σ1 → Q σ1 s.H) → vs.length = ts.length ∧ gsOf F.K ts vs σ s.H Q
  | [], us, vs, z, z1, σ, Q, r, hb, hl, hq => by
    cases us with
    | cons _ _ => simp [bindTs] at hb
    | nil =>
      simp only [bindTs] at hb
      cases hb
      have hv : vs = [] := (Reps.nil_iff r).mp rfl
      subst hv
      simp only [gsOf]
      exact ⟨rfl, rfl, hq σ ⟨rfl, rfl, fun _ _ => rfl, fun _ _ => rfl, fun i hi => by simp [tslotss] at hi⟩⟩
  | t :: ts, us, vs, z, z1, σ, Q, r, hb, hl, hq => by
    cases us with
    | nil => simp [bindTs] at hb
    | cons u us =>
      simp only [bindTs] at hb
      cases vs with
      | nil => have r' := r; unfold Fx.reps at r'; simp only [Reps] at r'
      | cons v vs =>
        have r' := r
        unfold Fx.reps at r'
        simp only [Reps] at r'
        obtain ⟨r1, r2⟩ := r'
        cases e1 : bindT t u z with
        | none => rw [e1] at hb; cases hb
        | some z2 =>
          rw [e1] at hb
          have hb : bindTs ts us z2 = some z1 := hb
          have hvl : vs.length = ts.length := by
            have q := (gsOf_ok (Q := fun _ _ => True) (σ := List.replicate z2.length none) ts r2 hb (by simp) fun _ _ => trivial).1
            exact q
          refine ⟨by simp [hvl], ?_⟩
          simp only [gsOf]
          refine ⟨v, vs, rfl, gOf_ok t r1 e1 hl fun σ1 b1 => ?_⟩
          refine (gsOf_ok ts r2 hb (by rw [b1.lz, b1.ls]; exact hl) fun σ2 b2 => ?_).2
          refine hq σ2 ?_
          have := b1.trans b2
          simpa only [tslotss] using this
end
/-- what was stored in slots of a comprehension's own leaves the state a state -/
theorem Bound.ok {sl : List Nat} {z1 : Slots} {σ1 : L2.St} (h : Ok F s z σ) (b : Bound F s sl z z1 σ σ1) : Ok F s z1 σ1 where
  hr := h.hr
  sr := {
    len := by rw [b.lz, b.ls]; exact h.sr.len
    val := fun i u e => by
      by_cases hi : i ∈ sl
      · obtain ⟨w, v, e1, e2, r⟩ := b.val i hi
        rw [e] at e1; cases e1
        exact ⟨v, e2, r⟩
      · rw [b.oz i hi] at e
        obtain ⟨v, e2, r⟩ := h.sr.val i u e
        exact ⟨v, by rw [b.os i hi]; exact e2, r⟩
    own := fun i u e => by
      by_cases hi : i ∈ sl
      · obtain ⟨w, v, e1, e2, r⟩ := b.val i hi
        rw [e] at e1; cases e1
      · rw [b.oz i hi] at e
        rw [b.os i hi]
        exact h.sr.own i u e
    nc := fun i u e => by
      by_cases hi : i ∈ sl
      · obtain ⟨w, v, e1, e2, r⟩ := b.val i hi
        rw [e] at e1; cases e1
      · rw [b.oz i hi] at e
        exact h.sr.nc i u e
    sep := fun i j u w a e1 e2 e3 e4 => by
      by_cases hi : i ∈ sl
      · obtain ⟨w, v, q1, q2, r⟩ := b.val i hi
        rw [e1] at q1; cases q1
      · by_cases hj : j ∈ sl
        · obtain ⟨w, v, q1, q2, r⟩ := b.val j hj
          rw [e2] at q1; cases q1
        · rw [b.oz i hi] at e1
          rw [b.oz j hj] at e2
          rw [b.os i hi] at e3
          rw [b.os j hj] at e4
          exact h.sr.sep i j u w a e1 e2 e3 e4 }
/-! ### what is walked -/
def Grow (s s' : S0) : Prop := s' = s ∨ ∃ p o, s.H p = none ∧ s' = { s with H := upd s.H p o }
theorem Grow.ext {s' : S0} (g : Grow s s') : ExtS s s' := by
  rcases g with rfl | ⟨p, o, hp, rfl⟩
  · exact ExtS.refl
  · exact ExtS.newF hp
theorem Grow.ok {s' : S0} (g : Grow s s') (h : Ok F s z σ) : Ok F s' z σ := by
  rcases g with rfl | ⟨p, o, hp, rfl⟩
  · exact h
  · exact h.newF hp
theorem Grow.hr {s' : S0} (g : Grow s s') (h : HRel F s) : HRel F s' := by
  rcases g with rfl | ⟨p, o, hp, rfl⟩
  · exact h
  · exact h.newF hp
theorem Grow.h {s' : S0} (g : Grow s s') : s'.h = s.h := by
  rcases g with rfl | ⟨p, o, hp, rfl⟩ <;> rfl
/-- how the state goes on while a walk goes on: in a for's turns; in a comprehension's -/
def Tr (st : Bool) (s s' : S0) : Prop := match st with
  | true => Mo s.io s.M s.H s'.io s'.M s'.H
  | false => ExtS s s'
theorem Tr.mo {st : Bool} {s' : S0} (h : HRel F s) (x : Tr st s s') : Mo s.io s.M s.H s'.io s'.M s'.H := by
  cases st with
  | true => exact x
  | false => exact ExtS.mo x h
structure WalkAt (F : Fx) (st : Bool) (s : S0) (xs : List U) (J : It) : Prop where
  len : xs.length ≤ sizeLine
  go : ∀ s', Tr st s s' → HRel F s' → ∀ (i : Nat) x, xs[i]? = some x → J.go i s'.H ∧ ∀ v H', J.yld i s'.H v H' → ∃ s'', s''.H = H' ∧ Grow s' s'' ∧ F.rep s'' x v
  stop : ∀ s', Tr st s s' → HRel F s' → ∀ i : Nat, xs.length ≤ i → J.stop i s'.H
/-- a source that is walked stays -/
theorem src_lst {st : Bool} {e : E} {v : V} {xs : List U} (ok : Ok F s z σ) (d : Held F z σ s e v) (k : e.src st z = some (.lst xs)) : ∃ a, v = .ref a ∧ ∀ s', Tr st s s' → HRel F s' → ∃ vs, Rd s'.H a (.lst vs) ∧ F.reps s' xs vs := by
  have frz : F.rep s (.lst xs) v → ∃ a, v = .ref a ∧ ∀ s', Tr st s s' → HRel F s' → ∃ vs, Rd s'.H a (.lst vs) ∧ F.reps s' xs vs := fun r => by
    have r' := r
    unfold Fx.rep at r'
    simp only [Rep] at r'
    obtain ⟨a, vs, e, q, r2⟩ := r'
    refine ⟨a, e, fun s' x h => ⟨vs, (q.mo (x.mo ok.hr)).2, Reps.mo (x.mo ok.hr) r2⟩⟩
  cases e with
  | fz u =>
    cases u with
    | ref n => cases k
    | lst ys => cases k; exact frz d
    | _ => cases k
  | own u => cases k; exact frz d
  | loc i =>
    cases st with
    | true => cases k
    | false =>
      obtain ⟨e1, w, e2⟩ := d
      have k' : (match z[i]? with
        | some (some (.own u)) => some u
        | _ => none) = some (.lst xs) := k
      rw [e2] at k'
      cases k'
      obtain ⟨a, e3, c, m, b, n, _⟩ := ok.sr.own i _ e2
      rw [e1] at e3
      cases e3
      obtain ⟨vs, e4, r⟩ := c
      refine ⟨a, rfl, fun s' x h => ⟨vs, .inl ?_, Reps.mo (x.mo ok.hr) r⟩⟩
      refine Ext.keep x a _ e4 fun w => n ?_
      cases hh : s.h with
      | none => rw [hh] at w; exact False.elim w
      | some _ => rw [hh] at w; exact w
theorem src_tup {st : Bool} {e : E} {v : V} {xs : List U} (ok : Ok F s z σ) (d : Held F z σ s e v) (k : e.src st z = some (.tup xs)) : ∃ a vs, v = .ref a ∧ ∀ s', Tr st s s' → HRel F s' → SqT F.K s'.H a vs ∧ F.reps s' xs vs := by
  have frz : F.rep s (.tup xs) v → ∃ a vs, v = .ref a ∧ ∀ s', Tr st s s' → HRel F s' → SqT F.K s'.H a vs ∧ F.reps s' xs vs := fun r => by
    have r' := r
    unfold Fx.rep at r'
    simp only [Rep] at r'
    obtain ⟨a, vs, e, q, r2⟩ := r'
    refine ⟨a, vs, e, fun s' x h => ⟨?_, Reps.mo (x.mo ok.hr) r2⟩⟩
    rcases q with q | q
    · exact .inl (q.mo (x.mo ok.hr)).2
    · exact .inr q
  cases e with
  | fz u =>
    cases u with
    | ref n => cases k
    | tup ys => cases k; exact frz d
    | _ => cases k
  | own u => cases k; exact frz d
  | loc i =>
    cases st with
    | true => cases k
    | false =>
      obtain ⟨e1, w, e2⟩ := d
      have k' : (match z[i]? with
        | some (some (.own u)) => some u
        | _ => none) = some (.tup xs) := k
      rw [e2] at k'
      cases k'
      obtain ⟨a, e3, c, _⟩ := ok.sr.own i _ e2
      exact False.elim c
theorem src_str {st : Bool} {e : E} {v : V} {x : Str} (ok : Ok F s z σ) (d : Held F z σ s e v) (k : e.src st z = some (.str x)) : v = .str x := by
  cases e with
  | fz u =>
    cases u with
    | ref n => cases k
    | str y =>
      cases k
      have d' : F.rep s (.str x) v := d
      unfold Fx.rep at d'
      simpa only [Rep] using d'
    | _ => cases k
  | own u =>
    cases k
    have d' : F.rep s (.str x) v := d
    unfold Fx.rep at d'
    simpa only [Rep] using d'
  | loc i =>
    cases st with
    | true => cases k
    | false =>
      obtain ⟨e1, w, e2⟩ := d
      have k' : (match z[i]? with
        | some (some (.own u)) => some u
        | _ => none) = some (.str x) := k
      rw [e2] at k'
      cases k'
      obtain ⟨a, e3, c, _⟩ := ok.sr.own i _ e2
      exact False.elim c
end
end Mi
namespace Mi
open PySem PySem.Spec L2
section
variable {F : Fx} {z : Slots} {σ : L2.St} {t s : S0} {X : Cx}
/-- what a for, a comprehension walks, by what it is -/
def rAnyIt (K : PySem.W.Frag) (x : V) (H : Hp) (R : It → Hp → Prop) : Prop :=
  (∃ a xs, x = .ref a ∧ Rd H a (.lst xs) ∧ (xs.length ≤ sizeLine → R (Itl K a) H)) ∨ (∃ a xs, x = .ref a ∧ SqT K H a xs ∧ (xs.length ≤ sizeLine → R (Itt K a) H)) ∨ ∃ y, x = .str y ∧ R (Its y) H
theorem pi_any {tg l : Expr} {tl : TE} (hl : PE X l tl) : PI X tg l (fun σ H R => tl σ H fun x H1 => rAnyIt X.K x H1 R) := by
  refine ⟨fun pins s σ H R I h => ?_⟩
  refine thn (hl.run pins s σ H _ I h) fun v s1 ⟨x, H1, I1, r1, q1⟩ => ?_
  rcases q1 with ⟨a, xs, e, hq, q⟩ | ⟨a, xs, e, hq, q⟩ | ⟨y, e, q⟩
  · subst e
    cases r1
    obtain ⟨its, rv, p, hz⟩ := I1.list (.inl hq)
    refine wpAny_pyIter_list p.isList ?_
    refine ⟨s1.heap.objs.size, [s1.heap.objs.size], _, _, H1, rfl, I1.kept (t' := s1.toks) fun b o e => Heap.get?_push_of_some _ e, turn_list a _, ⟨_, Heap.get?_push_size _ rfl, rfl, rfl⟩, fun b hb => ?_, q hz⟩
    have e : b = s1.heap.objs.size := by simpa using hb
    subst e
    exact I1.fpOk (Nat.le_refl _) (I1.hok.fresh (Nat.le_refl _))
  · subst e
    cases r1
    obtain ⟨its, rv, p, hz⟩ := I1.tuple hq
    refine wpAny_pyIter_tuple (show s1.heap.IsTuple a its.toArray from p) ?_
    refine ⟨s1.heap.objs.size, [s1.heap.objs.size], _, _, H1, rfl, I1.kept (t' := s1.toks) fun b o e => Heap.get?_push_of_some _ e, turn_tuple a _, ⟨_, Heap.get?_push_size _ rfl, rfl, rfl⟩, fun b hb => ?_, q hz⟩
    have e : b = s1.heap.objs.size := by simpa using hb
    subst e
    exact I1.fpOk (Nat.le_refl _) (I1.hok.fresh (Nat.le_refl _))
  · subst e
    obtain ⟨t, rfl⟩ := r1
    cases ha : y.cps.all (· < 128)
    · exact wpAny_pyIter_wide ha (pi_one (tk := s1.toks) I1 _ (turn_str _ y t "str_iterator" (.inr rfl)) ⟨_, Heap.get?_push_size _ rfl, rfl, rfl⟩ q)
    · exact wpAny_pyIter_ascii ha (pi_one (tk := s1.toks) I1 _ (turn_str _ y t "str_ascii_iterator" (.inl rfl)) ⟨_, Heap.get?_push_size _ rfl, rfl, rfl⟩ q)
def IAt (X : Cx) (tg e : Expr) : TI := fun σ H R => ∀ pins s, Inv X pins σ H s → wpAny (model X.prog X.w) X.A (eval e X.env) (fun v s1 => wpAny (model X.prog X.w) X.A (pyIter v) (PIE X pins σ tg R) X.xe s1) X.xe s
theorem pi_at {tg e : Expr} : PI X tg e (IAt X tg e) := ⟨fun pins s _ _ _ I h => h pins s I⟩
theorem atI {tg e : Expr} {te : TI} (p : PI X tg e te) {σ : L2.St} {H : Hp} {Q : It → Hp → Prop} (h : te σ H Q) : IAt X tg e σ H Q := fun pins s I => p.run pins s σ H Q I h

end
section
open PyProof.Rows
theorem pi_enumZ {X : Cx} {e : Expr} {ta : TA} {p pos tpos : Pos} {elts : List Expr} {kk : Nat} (hg : Gl X "enumerate") (hm : X.mg "enumerate" = none) (ha : PA X [e] ta) (hs : starEach [e] X.env = [(false, eval e X.env)] := by rfl) :
    PI X (.Tuple elts kk tpos) (.Call (.Name "enumerate" p) [e] [] pos) (fun σ H R => ta σ H fun vs H1 => ∃ a xs, vs = [.ref a] ∧ SqL X.K H1 a xs ∧ (xs.length ≤ sizeLine → R (Ite X.K a) H1)) := by
  refine ⟨fun pins s σ H R I h => ?_⟩
  refine Call_ (ld_blt I hg hm PyProof.Rows.boot_enumerate (PyProof.Rows.callWith_type1 (thn (ha.run pos pins s σ H _ I h) fun us s1 ⟨vs, H1, I1, r1, q1⟩ => ?_) hs rfl))
  obtain ⟨a, xs, ex, hq, q⟩ := q1
  subst ex
  cases r1 with
  | cons r rr =>
    cases rr
    cases r
    obtain ⟨its, rv, p', hz⟩ := I1.list hq
    refine call_enumerate_list p'.isList fun h' he hit hsz hk => wpAny_pyIter_enum he ?_
    have I2 : Inv X pins σ H1 { s1 with heap := h' } := I1.kept (t' := s1.toks) hk
    refine ⟨s1.heap.objs.size + 1, [s1.heap.objs.size + 1, s1.heap.objs.size], _, _, H1, rfl, I2, turn_enum a (s1.heap.objs.size + 1) s1.heap.objs.size, ⟨⟨.none, he⟩, hit, Nat.succ_ne_self _⟩, fun b hb => ?_, q hz⟩
    have e' : b = s1.heap.objs.size + 1 ∨ b = s1.heap.objs.size := by simpa using hb
    have hle : s1.heap.objs.size ≤ b := by
      rcases e' with z | z
      · rw [z]; exact Nat.le_add_right _ _
      · rw [z]; exact Nat.le_refl _
    exact I1.fpOk hle (I1.hok.fresh hle)
theorem pi_zipZ {X : Cx} {e e2 : Expr} {ta : TA} {p pos tpos : Pos} {elts : List Expr} {kk : Nat} (hg : Gl X "zip") (hm : X.mg "zip" = none) (ha : PA X [e, e2] ta)
    (hs : starEach [e, e2] X.env = (false, eval e X.env) :: starEach [e2] X.env := by rfl) (hpl : (backTo pos (starEach [e2] X.env)).any (·.1) = false := by rfl) :
    PI X (.Tuple elts kk tpos) (.Call (.Name "zip" p) [e, e2] [] pos) (fun σ H R => ta σ H fun vs H1 => ∃ a b xs ys, vs = [.ref a, .ref b] ∧ ((SqL X.K H1 a xs ∧ SqL X.K H1 b ys ∧ (xs.length ≤ sizeLine → R (Itz X.K a b) H1)) ∨ (SqT X.K H1 a xs ∧ SqT X.K H1 b ys ∧ (xs.length ≤ sizeLine → R (RZ.ItzT X.K a b) H1)))) := by
  refine ⟨fun pins s σ H R I h => ?_⟩
  refine Call_ (ld_blt I hg hm PyProof.Rows.boot_zip (PyProof.Rows.callWith_type1 (thn (ha.run pos pins s σ H _ I h) fun us s1 ⟨vs, H1, I1, r1, q1⟩ => ?_) hs hpl))
  obtain ⟨a, b, xs, ys, ex, q1⟩ := q1
  subst ex
  cases r1 with
  | cons r rr =>
    cases rr with
    | cons r' rr =>
      cases rr
      cases r
      cases r'
      have fresh5 : ∀ c, c ∈ [s1.heap.objs.size + 4, s1.heap.objs.size + 2, s1.heap.objs.size + 3, s1.heap.objs.size, s1.heap.objs.size + 1] → FpOk X pins H1 c := fun c hcm => by
        have e' : c = s1.heap.objs.size + 4 ∨ c = s1.heap.objs.size + 2 ∨ c = s1.heap.objs.size + 3 ∨ c = s1.heap.objs.size ∨ c = s1.heap.objs.size + 1 := by simpa using hcm
        have hle : s1.heap.objs.size ≤ c := by
          rcases e' with z | z | z | z | z
          · rw [z]; exact Nat.le_add_right _ _
          · rw [z]; exact Nat.le_add_right _ _
          · rw [z]; exact Nat.le_add_right _ _
          · rw [z]; exact Nat.le_refl _
          · rw [z]; exact Nat.le_add_right _ _
        exact I1.fpOk hle (I1.hok.fresh hle)
      rcases q1 with ⟨hqx, hqy, q⟩ | ⟨hqx, hqy, q⟩
      · obtain ⟨its, rv, p1, hz1⟩ := I1.list hqx
        obtain ⟨its2, rv2, p2, _⟩ := I1.list hqy
        refine call_zip_2 p1.isList p2.isList fun h' hz hTI hTO h1 h2 hsz hk => wpAny_pyIter_zip hz ?_
        have I2 : Inv X pins σ H1 { s1 with heap := h' } := I1.kept (t' := s1.toks) hk
        exact ⟨s1.heap.objs.size + 4, [s1.heap.objs.size + 4, s1.heap.objs.size + 2, s1.heap.objs.size + 3, s1.heap.objs.size, s1.heap.objs.size + 1], _, _, H1, rfl, I2, turn_zip (PySem.W.ktu_apart s1.heap.objs.size a b p1.lt p2.lt), ⟨hz, hTI, ⟨_, _, hTO⟩, h1, h2⟩, fresh5, q hz1⟩
      · obtain ⟨its, rv, p1, hz1⟩ := I1.tuple hqx
        obtain ⟨its2, rv2, p2, _⟩ := I1.tuple hqy
        obtain ⟨o1, ho1, _⟩ := id p1
        obtain ⟨o2, ho2, _⟩ := id p2
        refine RZ.call_zipT (show s1.heap.IsTuple a its.toArray from p1) (show s1.heap.IsTuple b its2.toArray from p2) fun h' hz hTI hTO h1 h2 hsz hk => wpAny_pyIter_zip hz ?_
        have I2 : Inv X pins σ H1 { s1 with heap := h' } := I1.kept (t' := s1.toks) hk
        exact ⟨s1.heap.objs.size + 4, [s1.heap.objs.size + 4, s1.heap.objs.size + 2, s1.heap.objs.size + 3, s1.heap.objs.size, s1.heap.objs.size + 1], _, _, H1, rfl, I2, RZ.turn_zipT (PySem.W.ktu_apart s1.heap.objs.size a b (Heap.lt_size ho1) (Heap.lt_size ho2)), ⟨hz, hTI, ⟨_, _, hTO⟩, h1, h2⟩, fresh5, q hz1⟩

end
section
variable {F : Fx} {z : Slots} {σ : L2.St} {t s : S0} {X : Cx}
theorem get_zip : ∀ {xs ys : List U} {i : Nat} {x : U}, (zip2 xs ys)[i]? = some x → ∃ a b, xs[i]? = some a ∧ ys[i]? = some b ∧ x = .tup [a, b]
  | [], _, _, _, h => by simp [zip2] at h
  | _ :: _, [], _, _, h => by simp [zip2] at h
  | a :: xs, b :: ys, 0, x, h => by
    simp only [zip2, List.zip_cons_cons, List.map_cons, List.getElem?_cons_zero, Option.some.injEq] at h
    exact ⟨a, b, by simp, by simp, h.symm⟩
  | a :: xs, b :: ys, i + 1, x, h => by
    simp only [zip2, List.zip_cons_cons, List.map_cons, List.getElem?_cons_succ] at h
    obtain ⟨c, d, e1, e2, e3⟩ := get_zip (xs := xs) (ys := ys) h
    exact ⟨c, d, by simpa using e1, by simpa using e2, e3⟩
theorem zip2_len (xs ys : List U) : (zip2 xs ys).length = min xs.length ys.length := by
  unfold zip2
  simp
theorem walk_lst {st : Bool} {a : Addr} {xs : List U} (hz : xs.length ≤ sizeLine) (h : ∀ s', Tr st s s' → HRel F s' → ∃ vs, Rd s'.H a (.lst vs) ∧ F.reps s' xs vs) : WalkAt F st s xs (Itl F.K a) where
  len := hz
  go := fun s' x hr i u e => by
    obtain ⟨vs, q, r⟩ := h s' x hr
    obtain ⟨v, e1, rv⟩ := Reps.get r e
    refine ⟨⟨vs, v, .inl q, e1⟩, fun w H' y => ?_⟩
    obtain ⟨e2, y⟩ := y
    have e3 := y vs (.inl q)
    rw [e1] at e3
    cases e3
    exact ⟨s', e2.symm, .inl rfl, rv⟩
  stop := fun s' x hr i hi => by
    obtain ⟨vs, q, r⟩ := h s' x hr
    exact ⟨vs, .inl q, by rw [← Reps.length r]; exact hi⟩
theorem walk_tup {st : Bool} {a : Addr} {xs : List U} {vs : List V} (hz : xs.length ≤ sizeLine) (h : ∀ s', Tr st s s' → HRel F s' → SqT F.K s'.H a vs ∧ F.reps s' xs vs) : WalkAt F st s xs (Itt F.K a) where
  len := hz
  go := fun s' x hr i u e => by
    obtain ⟨q, r⟩ := h s' x hr
    obtain ⟨v, e1, rv⟩ := Reps.get r e
    refine ⟨⟨vs, v, q, e1⟩, fun w H' y => ?_⟩
    obtain ⟨e2, y⟩ := y
    have e3 := y vs q
    rw [e1] at e3
    cases e3
    exact ⟨s', e2.symm, .inl rfl, rv⟩
  stop := fun s' x hr i hi => by
    obtain ⟨q, r⟩ := h s' x hr
    exact ⟨vs, q, by rw [← Reps.length r]; exact hi⟩
theorem walk_str {st : Bool} {y : Str} (hz : y.length ≤ sizeLine) : WalkAt F st s (y.cps.toList.map fun c => .str ⟨#[c]⟩) (Its y) where
  len := by
    rw [List.length_map, Array.length_toList]
    exact hz
  go := fun s' x hr i u e => by
    rw [List.getElem?_map] at e
    cases e1 : y.cps.toList[i]? with
    | none => rw [e1] at e; cases e
    | some c =>
      rw [e1] at e
      cases e
      have e2 : y.cps[i]? = some c := by rw [← Array.getElem?_toList]; exact e1
      refine ⟨(Array.getElem?_eq_some_iff.mp e2).1, fun w H' q => ?_⟩
      obtain ⟨e3, c', e4, e5⟩ := q
      rw [e2] at e4
      cases e4
      subst e5
      exact ⟨s', e3.symm, .inl rfl, rep_str⟩
  stop := fun s' x hr i hi => by
    rw [List.length_map, Array.length_toList] at hi
    exact hi
theorem walk_rng {st : Bool} {lo : Int} {n : Nat} (hz : n ≤ sizeLine) : WalkAt F st s (rangeU lo n) (Itr lo n) where
  len := by unfold rangeU; rw [List.length_map, List.length_range]; exact hz
  go := fun s' x hr i u e => by
    unfold rangeU at e
    rw [List.getElem?_map] at e
    cases e1 : (List.range n)[i]? with
    | none => rw [e1] at e; cases e
    | some c =>
      rw [e1] at e
      cases e
      obtain ⟨hi, e2⟩ := List.getElem?_eq_some_iff.mp e1
      rw [List.length_range] at hi
      rw [List.getElem_range] at e2
      subst e2
      refine ⟨hi, fun w H' q => ?_⟩
      obtain ⟨e3, e4⟩ := q
      subst e4
      exact ⟨s', e3.symm, .inl rfl, rep_int⟩
  stop := fun s' x hr i hi => by
    unfold rangeU at hi
    rw [List.length_map, List.length_range] at hi
    exact hi
theorem walk_rngC {st : Bool} {lo : Int} {n : Nat} (hz : n ≤ sizeLine) : WalkAt F st s ((List.range n).map fun (i : Nat) => .int (lo - i)) (Itc lo (-1) n) where
  len := by rw [List.length_map, List.length_range]; exact hz
  go := fun s' x hr i u e => by
    rw [List.getElem?_map] at e
    cases e1 : (List.range n)[i]? with
    | none => rw [e1] at e; cases e
    | some c =>
      rw [e1] at e
      cases e
      obtain ⟨hi, e2⟩ := List.getElem?_eq_some_iff.mp e1
      rw [List.length_range] at hi
      rw [List.getElem_range] at e2
      subst e2
      refine ⟨hi, fun w H' q => ?_⟩
      obtain ⟨e3, e4⟩ := q
      subst e4
      refine ⟨s', e3.symm, .inl rfl, ?_⟩
      have e5 : lo + (i : Int) * (-1) = lo - i := by omega
      rw [e5]
      exact rep_int
  stop := fun s' x hr i hi => by
    rw [List.length_map, List.length_range] at hi
    exact hi
theorem enum_get : ∀ {xs : List U} {k i : Nat} {u : U}, (enumFrom k xs)[i]? = some u → ∃ x, xs[i]? = some x ∧ u = .tup [.int ((k + i : Nat) : Int), x]
  | [], _, _, _, h => by simp [enumFrom] at h
  | x :: r, k, 0, u, h => by
    simp only [enumFrom, List.getElem?_cons_zero, Option.some.injEq] at h
    exact ⟨x, by simp, h.symm⟩
  | x :: r, k, i + 1, u, h => by
    simp only [enumFrom, List.getElem?_cons_succ] at h
    obtain ⟨y, e1, e2⟩ := enum_get h
    refine ⟨y, by simpa using e1, ?_⟩
    rw [e2]
    congr 4
    omega
theorem enum_len : ∀ (xs : List U) (k : Nat), (enumFrom k xs).length = xs.length
  | [], _ => rfl
  | x :: r, k => by simp [enumFrom, enum_len r]
theorem pair_rep {s' : S0} {T : Addr} {a b : U} {x y : V} (hT : s'.H T = none) (hr : HRel F s') (ra : F.rep s' a x) (rb : F.rep s' b y) : F.rep { s' with H := upd s'.H T (.tup [x, y]) } (.tup [a, b]) (.ref T) := by
  unfold Fx.rep
  simp only [Rep]
  refine ⟨T, [x, y], rfl, .inl ⟨hr.fresh hT, .inl upd_same⟩, ?_⟩
  simp only [Reps]
  exact ⟨Rep.mo (Mo.newF hT) ra, Rep.mo (Mo.newF hT) rb, trivial⟩
theorem walk_enum {st : Bool} {a : Addr} {xs : List U} (hz : xs.length ≤ sizeLine) (h : ∀ s', Tr st s s' → HRel F s' → ∃ vs, Rd s'.H a (.lst vs) ∧ F.reps s' xs vs) : WalkAt F st s (enumFrom 0 xs) (Ite F.K a) where
  len := by rw [enum_len]; exact hz
  go := fun s' x hr i u e => by
    obtain ⟨vs, q, r⟩ := h s' x hr
    obtain ⟨w, e0, rfl⟩ := enum_get e
    obtain ⟨v, e1, rv⟩ := Reps.get r e0
    refine ⟨⟨vs, v, .inl q, e1⟩, fun w' H' y => ?_⟩
    obtain ⟨T, x', e2, hT, e3, y⟩ := y
    have e4 := y vs (.inl q)
    rw [e1] at e4
    cases e4
    subst e2
    refine ⟨{ s' with H := upd s'.H T (.tup [.int (i : Nat), v]) }, e3.symm, .inr ⟨T, _, hT, rfl⟩, ?_⟩
    rw [Nat.zero_add]
    exact pair_rep hT hr rep_int rv
  stop := fun s' x hr i hi => by
    obtain ⟨vs, q, r⟩ := h s' x hr
    rw [enum_len] at hi
    exact ⟨vs, .inl q, by rw [← Reps.length r]; exact hi⟩
theorem walk_zipL {st : Bool} {a b : Addr} {xs ys : List U} (hz : xs.length ≤ sizeLine) (h : ∀ s', Tr st s s' → HRel F s' → ∃ vs, Rd s'.H a (.lst vs) ∧ F.reps s' xs vs) (h2 : ∀ s', Tr st s s' → HRel F s' → ∃ vs, Rd s'.H b (.lst vs) ∧ F.reps s' ys vs) : WalkAt F st s (zip2 xs ys) (Itz F.K a b) where
  len := by rw [zip2_len]; omega
  go := fun s' x hr i u e => by
    obtain ⟨vs, q, r⟩ := h s' x hr
    obtain ⟨ws, q2, r2⟩ := h2 s' x hr
    obtain ⟨c, d, e1, e2, rfl⟩ := get_zip e
    obtain ⟨v, e3, rv⟩ := Reps.get r e1
    obtain ⟨w, e4, rw'⟩ := Reps.get r2 e2
    refine ⟨⟨vs, ws, v, w, .inl q, .inl q2, e3, e4⟩, fun w' H' y => ?_⟩
    obtain ⟨T, x', y', e5, hT, e6, y1, y2⟩ := y
    have e7 := y1 vs (.inl q)
    have e8 := y2 ws (.inl q2)
    rw [e3] at e7
    rw [e4] at e8
    cases e7
    cases e8
    subst e5
    exact ⟨{ s' with H := upd s'.H T (.tup [v, w]) }, e6.symm, .inr ⟨T, _, hT, rfl⟩, pair_rep hT hr rv rw'⟩
  stop := fun s' x hr i hi => by
    obtain ⟨vs, q, r⟩ := h s' x hr
    obtain ⟨ws, q2, r2⟩ := h2 s' x hr
    rw [zip2_len] at hi
    refine ⟨vs, ws, .inl q, .inl q2, ?_⟩
    rw [← Reps.length r, ← Reps.length r2]
    omega
theorem walk_zipT {st : Bool} {a b : Addr} {xs ys : List U} {vs ws : List V} (hz : xs.length ≤ sizeLine) (h : ∀ s', Tr st s s' → HRel F s' → SqT F.K s'.H a vs ∧ F.reps s' xs vs) (h2 : ∀ s', Tr st s s' → HRel F s' → SqT F.K s'.H b ws ∧ F.reps s' ys ws) : WalkAt F st s (zip2 xs ys) (RZ.ItzT F.K a b) where
  len := by rw [zip2_len]; omega
  go := fun s' x hr i u e => by
    obtain ⟨q, r⟩ := h s' x hr
    obtain ⟨q2, r2⟩ := h2 s' x hr
    obtain ⟨c, d, e1, e2, rfl⟩ := get_zip e
    obtain ⟨v, e3, rv⟩ := Reps.get r e1
    obtain ⟨w, e4, rw'⟩ := Reps.get r2 e2
    refine ⟨⟨vs, ws, v, w, q, q2, e3, e4⟩, fun w' H' y => ?_⟩
    obtain ⟨T, x', y', e5, hT, e6, y1, y2⟩ := y
    have e7 := y1 vs q
    have e8 := y2 ws q2
    rw [e3] at e7
    rw [e4] at e8
    cases e7
    cases e8
    subst e5
    exact ⟨{ s' with H := upd s'.H T (.tup [v, w]) }, e6.symm, .inr ⟨T, _, hT, rfl⟩, pair_rep hT hr rv rw'⟩
  stop := fun s' x hr i hi => by
    obtain ⟨q, r⟩ := h s' x hr
    obtain ⟨q2, r2⟩ := h2 s' x hr
    rw [zip2_len] at hi
    refine ⟨vs, ws, q, q2, ?_⟩
    rw [← Reps.length r, ← Reps.length r2]
    omega
end
end Mi
namespace Mi
open PySem PySem.Spec L2
variable {nm : Nm → Str} {df : Fk → Bool} {P : Prog}
theorem bind_bind {α β γ : Type} (r : Res α) (f : α → CH → Res β) (g : β → CH → Res γ) : (r.bind f).bind g = r.bind fun a h => (f a h).bind g := by
  cases r <;> rfl
/-- .. what is seen of it -/
theorem Post.seenB {F : Fx} {z : Slots} {σ : L2.St} {W : WX} {t : S0} {γ δ : Type} {R2 : S0 → S0 → γ → δ → Prop} {Q : δ → Hp → Prop} {r : Res E} {f : U → CH → Res γ} (okt : Ok F t z σ)
    (mono : ∀ t t1 s a v, ExtS t t1 → R2 t1 s a v → R2 t s a v) (h : Post F z σ W t R2 Q ((seen z r).bind f)) :
    Post F z σ W t (RepE F z σ) (fun v H1 => ∃ s u, s.H = H1 ∧ At F z σ t s ∧ Seen F s u v ∧ Post F z σ W s R2 Q (f u s.h)) r := by
  have h' : Post F z σ W t R2 Q (r.bind fun e h => (ofOpt (e.see z h) h).bind f) := by
    unfold seen at h
    cases r with
    | ok e h1 => exact h
    | exc c fs h1 => exact h
    | stuck => exact h
  refine (Post.hold okt mono h').imp fun v H1 ⟨s, e, e1, a, d, p⟩ => ?_
  obtain ⟨u, k, p'⟩ := p.opt
  exact ⟨s, u, e1, a, d.see a.ok k, p'⟩
def AAtP (X : Cx) (es : List Expr) (σ : L2.St) (H : Hp) (Q : List V → Hp → Prop) : Prop := AAt X es σ H Q
theorem AAt.imp {X : Cx} {es : List Expr} {σ : L2.St} {H : Hp} {Q Q' : List V → Hp → Prop} (h : AAt X es σ H Q) (q : ∀ v H, Q v H → Q' v H) : AAt X es σ H Q' := fun pos pins s I => thn (h pos pins s I) fun _ _ ⟨v, H', I', r, w⟩ => ⟨v, H', I', r, q v H' w⟩
theorem TAt.imp {X : Cx} {e : Expr} {σ : L2.St} {H : Hp} {Q Q' : Bool → Hp → Prop} (h : TAt X e σ H Q) (q : ∀ v H, Q v H → Q' v H) : TAt X e σ H Q' := fun wh pins s I he => thn (h wh pins s I he) fun _ _ ⟨H', I', w⟩ => ⟨H', I', q _ H' w⟩
theorem ended_ok {r : Res E} {F : Fx} {z : Slots} {σ : L2.St} {W : WX} {t : S0} {Q : VK} (h : Post F z σ W t (RepE F z σ) Q (ended r)) : Post F z σ W t (RepE F z σ) Q (ended r) := h
theorem SeenL.mono {F : Fx} : ∀ (t t1 s : S0) (a : List U) (v : List V), ExtS t t1 → (fun _ s us vs => SeenL F s us vs) t1 s a v → (fun (_ : S0) s us vs => SeenL F s us vs) t s a v := fun _ _ _ _ _ _ r => r
def RepO (t s : S0) (o p : Option Int) : Prop := o = p
theorem RepO.mono : ∀ (t t1 s : S0) (a v : Option Int), ExtS t t1 → RepO t1 s a v → RepO t s a v := fun _ _ _ _ _ _ r => r
def OAt (X : Cx) (e : Option Expr) : TO := fun σ H Q => ∀ pins s, Inv X pins σ H s → wpAny (model X.prog X.w) X.A (evalPart e X.env) (fun u s' => ∃ o H', Inv X pins σ H' s' ∧ IsPart u o ∧ Q o H') X.xe s
theorem po_at {X : Cx} {e : Option Expr} : PO X e (OAt X e) := ⟨fun pins s _ _ _ I h => h pins s I⟩
theorem atO {X : Cx} {e : Option Expr} {te : TO} (p : PO X e te) {σ : L2.St} {H : Hp} {Q : Option Int → Hp → Prop} (h : te σ H Q) : OAt X e σ H Q := fun pins s I => p.run pins s σ H Q I h
theorem OAt.imp {X : Cx} {e : Option Expr} {σ : L2.St} {H : Hp} {Q Q' : Option Int → Hp → Prop} (h : OAt X e σ H Q) (q : ∀ v H, Q v H → Q' v H) : OAt X e σ H Q' := fun pins s I => thn (h pins s I) fun _ _ ⟨v, H', I', r, w⟩ => ⟨v, H', I', r, q v H' w⟩
/-- a call of a def -/
theorem callE {n : Nat} {F : Fx} {X : Cx} {m : ME} {W : WX} (g : Good nm df P n F X m W) {f : Nm} {y : Expr} {ys : List Expr} {cs : List CE} {p q : Pos} {σ : L2.St} {H : Hp} {Q : VK} (hdf : df (.fn f) = true) (gl : Gl X (nm f)) (hd : (nm f == ("__debug__" : Str)) = false) (s1 : starB y = false) (h2 : MMs nm df m cs ys)
    (h : AAt X (y :: ys) σ H fun vs H1 => ∃ (s : S0) (us : List U) (z : Slots), s.H = H1 ∧ Ok F s z σ ∧ F.reps s us vs ∧ Post F z σ W s (RepE F z σ) Q (ended (phi P n (.fn f) us s.h))) : EAt X (.Call (.Name (nm f) p) (y :: ys) [] q) σ H Q := by
  obtain ⟨d, hf⟩ := g.df _ hdf
  have I := g.fns _ d hf
  obtain ⟨fd, ps, Fo, Bi⟩ := I.ex
  refine atE (pe_callSD (E := WE W) Fo g.room gl (g.gf f d hf) I.kp Bi .nil (fun σ => passAt g.takes σ) pa_at hd (star_of s1 _ _) (plain_of _ h2 _ _)) (h.imp fun vs H1 ⟨s, us, z, q1, ok, r, p⟩ => ?_)
  subst q1
  rw [List.append_nil, ← g.K]
  exact spF_of g.T ok r p fun _ _ _ w => w
def RepV (t s : S0) (b : Bool) (v : V) : Prop := v = .bl b
theorem RepV.mono : ∀ (t t1 s : S0) (a : Bool) (v : V), ExtS t t1 → RepV t1 s a v → RepV t s a v := fun _ _ _ _ _ _ r => r
def WAt (X : Cx) (e : Expr) : TT := fun σ H Q => ∀ (wh : Sem Value) pins s, Inv X pins σ H s → wpAny (model X.prog X.w) X.A (isTrue e X.env wh) (TP X pins σ Q) X.xe s
theorem pw_at {X : Cx} {e : Expr} : PW X e (WAt X e) := ⟨fun wh pins s _ _ _ I h => h wh pins s I⟩
theorem atW {X : Cx} {e : Expr} {te : TT} (p : PW X e te) {σ : L2.St} {H : Hp} {Q : Bool → Hp → Prop} (h : te σ H Q) : WAt X e σ H Q := fun wh pins s I => p.run wh pins s σ H Q I h
theorem WAt.ta {X : Cx} {e : Expr} {σ : L2.St} {H : Hp} {Q : Bool → Hp → Prop} (h : WAt X e σ H Q) : TAt X e σ H Q := fun wh pins s I _ => h wh pins s I
theorem val_of {e : Expr} (h : valB e = true) (env : Env) : ∀ wh, isTrue e env wh = (do let v ← wh; standAt e.pos; holding [v] (truthy v)) := fun wh => by
  cases e with
  | UnaryOp q x pos =>
    cases q with
    | Not => simp [valB] at h
    | _ => rfl
  | BoolOp => simp [valB] at h
  | IfExp => simp [valB] at h
  | Compare => simp [valB] at h
  | _ => rfl
theorem tru_of {F : Fx} {X : Cx} {s : S0} (hK : F.K = X.K) {u : U} {v : V} {b : Bool} (h : tru u = some b) (r : Seen F s u v) : TruV X.K v s.H b := by
  have emp : ∀ {xs : List U} {vs : List V}, F.reps s xs vs → xs.isEmpty = vs.isEmpty := fun {xs vs} r => by
    have l := Reps.length r
    cases xs <;> cases vs <;> first | rfl | (simp at l)
  unfold tru at h
  split at h
  · cases h; obtain rfl := r.bl; rfl
  · cases h; obtain rfl := r.int; rfl
  · cases h; obtain rfl := r.non; rfl
  · split at h
    · rename_i hl
      cases h
      obtain rfl := r.str
      exact ⟨by rw [← line_eq]; exact hl, rfl⟩
    · cases h
  · cases h
    obtain ⟨a, vs, rfl, q, r⟩ := r.tup
    rw [hK] at q
    exact .inr (.inl ⟨vs, q, by rw [emp r]⟩)
  · cases h
    obtain ⟨a, vs, rfl, q, r⟩ := r.lst
    exact .inl ⟨vs, .inl q, by rw [emp r]⟩
  · cases h
def RepK (F : Fx) (k : Nat) (t s : S0) (us : List U) (vs : List V) : Prop := F.reps s us vs ∧ us.length = k
theorem RepK.mono {F : Fx} {k : Nat} : ∀ (t t1 s : S0) (a : List U) (v : List V), ExtS t t1 → RepK F k t1 s a v → RepK F k t s a v := fun _ _ _ _ _ _ r => r
def HeldL (F : Fx) (z : Slots) (σ : L2.St) (s : S0) : List E → List V → Prop
  | [], [] => True
  | e :: es, v :: vs => Held F z σ s e v ∧ HeldL F z σ s es vs
  | _, _ => False
def RepHs (F : Fx) (z : Slots) (σ : L2.St) (t s : S0) (es : List E) (vs : List V) : Prop := HeldL F z σ s es vs
theorem RepHs.mono {F : Fx} {z : Slots} {σ : L2.St} : ∀ (t t1 s : S0) (a : List E) (v : List V), ExtS t t1 → RepHs F z σ t1 s a v → RepHs F z σ t s a v := fun _ _ _ _ _ _ r => r
def RepW (F : Fx) (st : Bool) (t s : S0) (xs : List U) (J : It) : Prop := WalkAt F st s xs J
theorem RepW.mono {F : Fx} {st : Bool} : ∀ (t t1 s : S0) (a : List U) (v : It), ExtS t t1 → RepW F st t1 s a v → RepW F st t s a v := fun _ _ _ _ _ _ r => r
theorem Tr.refl {st : Bool} {s : S0} : Tr st s s := by
  cases st with
  | true => exact Mo.refl
  | false => exact ExtS.refl
theorem IAt.imp {X : Cx} {tg e : Expr} {σ : L2.St} {H : Hp} {Q Q' : It → Hp → Prop} (h : IAt X tg e σ H Q) (q : ∀ v H, Q v H → Q' v H) : IAt X tg e σ H Q' := fun pins s I => thn (h pins s I) fun _ _ w => thn w fun _ _ ⟨it, fp, tn, J, H', e1, I', T, a, b, r⟩ => ⟨it, fp, tn, J, H', e1, I', T, a, b, q J H' r⟩
theorem wide_of {i : Int} (h : wide i = true) : -(2 ^ 62) ≤ i ∧ i < 2 ^ 62 := by
  unfold wide at h
  have h := Nat.le_of_ble_eq_true h
  omega
theorem reps_one {F : Fx} {s : S0} {i : Int} {vs : List V} (r : F.reps s [.int i] vs) : vs = [.int i] := reps_int (ns := [i]) r
theorem reps_two {F : Fx} {s : S0} {i j : Int} {vs : List V} (r : F.reps s [.int i, .int j] vs) : vs = [.int i, .int j] := reps_int (ns := [i, j]) r
theorem reps_three {F : Fx} {s : S0} {i j k : Int} {vs : List V} (r : F.reps s [.int i, .int j, .int k] vs) : vs = [.int i, .int j, .int k] := reps_int (ns := [i, j, k]) r
/-- a range's turns, by what its ends are -/
theorem rng_ok {F : Fx} {st : Bool} {z : Slots} {σ : L2.St} {W : WX} {s : S0} {us : List U} {vs : List V} {k : Nat} {Q : It → Hp → Prop} (a1 : Ok F s z σ) (r : F.reps s us vs) (hl : us.length = k) (p : Post F z σ W s (RepW F st) Q (ofOpt (rangeOf us) s.h)) :
    (k = 1 → ∃ j : Int, vs = [.int j] ∧ -(2 ^ 62) ≤ j ∧ j < 2 ^ 62 ∧ Q (Itr 0 j.toNat) s.H) ∧
    (k = 2 → ∃ i j : Int, vs = [.int i, .int j] ∧ (-(2 ^ 62) ≤ i ∧ i < 2 ^ 62 ∧ -(2 ^ 62) ≤ j ∧ j < 2 ^ 62) ∧ Q (Itr i (j - i).toNat) s.H) ∧
    (k = 3 → ∃ (i j c : Int) (n : Nat), vs = [.int i, .int j, .int c] ∧ RgC i j c n ∧ Q (Itc i c n) s.H) := by
  obtain ⟨xs, hr, p2⟩ := p.opt1
  unfold rangeOf at hr
  split at hr
  · split at hr
    · rename_i hw
      simp only [Bool.and_eq_true, decide_eq_true_eq] at hw
      cases hr
      refine ⟨fun _ => ?_, fun h => ?_, fun h => ?_⟩
      · obtain ⟨w1, w2⟩ := wide_of hw.1
        exact ⟨_, reps_one r, w1, w2, p2.here (R := RepW F st) a1 (walk_rng (by rw [← line_eq]; exact hw.2))⟩
      · subst h; cases hl
      · subst h; cases hl
    · cases hr
  · split at hr
    · rename_i hw
      simp only [Bool.and_eq_true, decide_eq_true_eq] at hw
      cases hr
      refine ⟨fun h => ?_, fun h => ?_, fun h => ?_⟩
      · subst h; cases hl
      · obtain ⟨w1, w2⟩ := wide_of hw.1.1
        obtain ⟨w3, w4⟩ := wide_of hw.1.2
        exact ⟨_, _, reps_two r, ⟨w1, w2, w3, w4⟩, p2.here (R := RepW F st) a1 (walk_rng (by rw [← line_eq]; exact hw.2))⟩
      · subst h; cases hl
    · cases hr
  · split at hr
    · rename_i hw
      simp only [Bool.and_eq_true, decide_eq_true_eq] at hw
      cases hr
      refine ⟨fun h => ?_, fun h => ?_, fun h => ?_⟩
      · subst h; cases hl
      · subst h; cases hl
      · obtain ⟨w1, w2⟩ := wide_of hw.1.1.1
        obtain ⟨w3, w4⟩ := wide_of hw.1.1.2
        have hc := hw.1.2
        have hv := reps_three r
        rw [hc] at hv
        exact ⟨_, _, _, _, hv, RgC.neg w1 w2 w3 w4, p2.here (R := RepW F st) a1 (walk_rngC (by rw [← line_eq]; exact hw.2))⟩
    · cases hr
  · cases hr
/-! ### comprehensions -/
def TsAt (X : Cx) (ifs : List Expr) : TT := fun σ H Q => ∀ pins s, Inv X pins σ H s → wpAny (model X.prog X.w) X.A (forIn ifs true fun c r => if r = true then do let ok ← isTrue c X.env (eval c X.env); pure (ForInStep.yield ok) else pure (ForInStep.yield r)) (TP X pins σ Q) X.xe s
theorem pts_at {X : Cx} {ifs : List Expr} : PTs X ifs (TsAt X ifs) := ⟨fun pins s _ _ _ I h => h pins s I⟩
theorem atTs {X : Cx} {ifs : List Expr} {te : TT} (p : PTs X ifs te) {σ : L2.St} {H : Hp} {Q : Bool → Hp → Prop} (h : te σ H Q) : TsAt X ifs σ H Q := fun pins s I => p.run pins s σ H Q I h
/-- the block's context -/
abbrev blkX (X : Cx) (scope : Scope) (s : Shared) (H : Hp) (C : Addr) (cl : List (Str × Addr)) (fp : List Addr) : Cx := X.blk s H scope (compEnvC scope cl C X.env) fp
def ttC (X : Cx) (scope : Scope) (ifs : List Expr) : TT := fun σ H Q => ∀ s H0 C cl fp, TsAt (blkX X scope s H0 C cl fp) ifs σ H Q
def teC (X : Cx) (scope : Scope) (elt : Expr) : TE := fun σ H Q => ∀ s H0 C cl fp, EAt (blkX X scope s H0 C cl fp) elt σ H Q
/-- what is barred besides: the list that is being made -/
abbrev Fx.bar (F : Fx) (D : Addr) : Fx := { F with B := fun b => F.B b ∨ b = D }
theorem Good.blk {n : Nat} {F : Fx} {X : Cx} {m : ME} {W : WX} (g : Good nm df P n F X m W) (D : Addr) (scope : Scope) (s : Shared) (H : Hp) (C : Addr) (cl : List (Str × Addr)) (fp : List Addr) : Good nm df P n (F.bar D) (blkX X scope s H C cl fp) (meC m scope) (fun _ _ _ _ => False) where
  hN := g.hN
  sc := by
    show relS scope X.env.scope = relS scope m.sc
    rw [g.sc]
  fn := rfl
  cv := g.cv
  nd := g.nd
  calm := g.calm
  takes := takes0
  K := g.K
  T := g.T
  room := g.room
  bl := g.bl
  df := g.df
  fns := fun k d h => by
    have I := g.fns k d h
    exact ⟨I.ex, I.kp⟩
  gf := g.gf
  cs := g.cs
theorem bind_ok {α β : Type} {r : Res α} {f : α → CH → Res β} {b : β} {h : CH} (e : r.bind f = .ok b h) : ∃ a h1, r = .ok a h1 ∧ f a h1 = .ok b h := by
  cases r with
  | ok a h1 => exact ⟨a, h1, rfl, e⟩
  | exc c fs h1 => cases e
  | stuck => cases e
theorem set_of {e : Expr} (h : setB e = false) (env : Env) : ∀ x, foldedSetIterable e env x = pure x := fun x => by
  cases e <;> first | rfl | (simp [setB] at h)
/-- a write where nothing held looks -/
theorem Ok.wrote {F : Fx} {s : S0} {z : Slots} {σ : L2.St} {D : Addr} {o : HO} (h : Ok F s z σ) (hM : s.M D) (hi : D ∉ s.io) (ho : ∀ (i : Nat) u, z[i]? = some (some (.own u)) → σ[i]? ≠ some (some (.ref D))) : Ok F { s with H := upd s.H D o } z σ := by
  have mo : Mo s.io s.M s.H s.io s.M (upd s.H D o) := ⟨⟨[], by simp⟩, fun b o' e nm => by
    rw [upd_ne (by rintro rfl; exact nm hM)]; exact e, fun _ m => .inl m⟩
  have ne : ∀ b o', s.H b = some o' → b ≠ D → upd s.H D o b = some o' := fun b o' e nb => by rw [upd_ne nb]; exact e
  refine ⟨⟨fun b m => ?_, h.hr.sub, h.hr.iot, h.hr.nd, fun xs e => ?_⟩, ⟨h.sr.len, fun i u e => ?_, fun i u e => ?_, h.sr.nc, h.sr.sep⟩⟩
  · by_cases hb : b = D
    · subst hb; exact ⟨o, upd_same⟩
    · obtain ⟨o', e⟩ := h.hr.dom b m
      exact ⟨o', ne b o' e hb⟩
  · obtain ⟨l, q⟩ := h.hr.hp xs e
    exact ⟨l, fun n u a e1 e2 => (q n u a e1 e2).mo mo fun o' e3 => ne a o' e3 (by rintro rfl; exact hi (List.mem_of_getElem? e2))⟩
  · obtain ⟨v, q, r⟩ := h.sr.val i u e
    exact ⟨v, q, Rep.mo mo r⟩
  · obtain ⟨a, q, c, m, b, n, f⟩ := h.sr.own i u e
    exact ⟨a, q, c.mo mo (fun o' e3 => ne a o' e3 (by rintro rfl; exact ho i u e q)), m, b, n, f⟩
theorem Ok.outer {F : Fx} {D : Addr} {s0 s1 : S0} {sl : List Nat} {z z1 : Slots} {σ σ1 : L2.St} (ok0 : Ok F s0 z σ) (hcv : ∀ i ∈ sl, i ∈ F.cv) (oz : ∀ i, i ∉ sl → z1[i]? = z[i]?) (os : ∀ i, i ∉ sl → σ1[i]? = σ[i]?) (x : ExtS s0 s1) (ok1 : Ok (F.bar D) s1 z1 σ1) : Ok F s1 z σ where
  hr := ⟨ok1.hr.dom, fun b m => ok1.hr.sub b (.inl m), fun b hb => ⟨(ok1.hr.iot b hb).1, fun m => (ok1.hr.iot b hb).2 (.inl m)⟩, ok1.hr.nd, ok1.hr.hp⟩
  sr := {
    len := ok0.sr.len
    val := fun i u e => by
      obtain ⟨v, q, r⟩ := ok0.sr.val i u e
      exact ⟨v, q, x.rep ok0.hr r⟩
    own := fun i u e => by
      have hi : i ∉ sl := fun q => ok0.sr.nc i u e (hcv i q)
      obtain ⟨a, q, c, m, b, n, f⟩ := ok1.sr.own i u (by rw [oz i hi]; exact e)
      exact ⟨a, by rw [← os i hi]; exact q, c, m, fun q => b (.inl q), n, f⟩
    nc := ok0.sr.nc
    sep := ok0.sr.sep }
/-- a comprehension, from what its parts do -/
theorem compOk {gt : Tgt} {it : CI} {cs : List CT} {c : CE} {n : Nat} {F : Fx} {X : Cx} {m : ME} {W : WX} {tg elt iter : Expr} {ifs : List Expr} {scope : Scope} (g : Good nm df P n F X m W) {t : S0} {z : Slots} {σ : L2.St} {Q : VK} (ok : Ok F t z σ)
    (hcv : ((tslots gt).all fun i => m.cv.contains i && decide (i < m.N.length)) = true)
    (hI : ∀ Q : It → Hp → Prop, Post F z σ W t (RepW F false) Q (evI F.T (phi P n) false z it t.h) → IAt X tg iter σ t.H Q)
    (hTs : ∀ (D : Addr) s0 H0 C cl fp {s : S0} {z : Slots} {σ : L2.St} {Q : Bool → Hp → Prop}, Ok (F.bar D) s z σ → Post (F.bar D) z σ (fun _ _ _ _ => False) s RepB Q (evTs F.T (phi P n) z cs s.h) → TsAt (blkX X scope s0 H0 C cl fp) ifs σ s.H Q)
    (hE : ∀ (D : Addr) s0 H0 C cl fp {s : S0} {z : Slots} {σ : L2.St} {Q : VK}, Ok (F.bar D) s z σ → Post (F.bar D) z σ (fun _ _ _ _ => False) s (RepE (F.bar D) z σ) Q (evE F.T (phi P n) z c s.h) → EAt (blkX X scope s0 H0 C cl fp) elt σ s.H Q)
    (p : Post F z σ W t (RepE F z σ) Q (evE F.T (phi P n) z (.comp gt it cs c) t.h)) : tLc (IAt X tg iter) (gOf X.K gt) (ttC X scope ifs) (teC X scope elt) ((ownC m gt).map (·.2)) σ t.H Q := by
  have hsl : (ownC m gt).map (·.2) = tslots gt := by unfold ownC; rw [List.map_map]; simp [Function.comp_def]
  rw [hsl]
  have hcv' : ∀ i ∈ tslots gt, i ∈ F.cv := fun i hi => by
    have := List.all_eq_true.mp hcv i hi
    simp only [Bool.and_eq_true, List.contains_eq_mem, decide_eq_true_eq] at this
    rw [g.cv]
    exact this.1
  simp only [evE] at p
  refine (hI _ (Post.bind (R := RepW F false) RepE.mono p)).imp fun J H1 ⟨s, xs, q1, a1, w, p1⟩ => ?_
  subst q1
  intro D hD
  have hw : WalkAt F false s xs J := w
  generalize hf : (fun x h => (match bindT gt x z with
      | some σ' => (evTs F.T (phi P n) σ' cs h).bind fun b h => (match b with
        | true => (evE F.T (phi P n) σ' c h).bind fun r h => (r.keep h).bind fun u h => .ok (some u) h
        | false => .ok none h)
      | none => .stuck) : U → CH → Res (Option U)) = f at p1
  have hD_own : ∀ (i : Nat) u, z[i]? = some (some (.own u)) → σ[i]? ≠ some (some (.ref D)) := fun i u e => a1.ok.own_ne hD i u e
  have hBD : ¬ F.B D := fun q => a1.ok.hr.fresh hD (a1.ok.hr.sub D q)
  have hiD : D ∉ s.io := fun q => a1.ok.hr.fresh hD (a1.ok.hr.iot D q).1
  -- the state between two turns
  let Wt : Nat → Nat → Hp → Prop := fun i mm H => ∃ (s2 : S0) (acc : List U) (accv : List V), mm = xs.length - i ∧ i ≤ xs.length ∧ s2.H = H ∧ At F z σ s s2 ∧ s2.M D ∧ D ∉ s2.io ∧ H D = some (.lst accv) ∧ F.reps s2 acc accv ∧ acc.length ≤ i ∧
    Post F z σ W s (RepE F z σ) Q ((goComp f (xs.drop i) s2.h acc).bind fun ys h => .ok (.own (.lst ys)) h)
  refine ⟨Wt, ⟨xs.length, ⟨{ s with H := upd s.H D (.lst []), M := fun b => s.M b ∨ b = D }, [], [], by simp, Nat.zero_le _, rfl, ⟨ExtS.updM hD, a1.ok.updM hD⟩, .inr rfl, hiD, upd_same, by unfold Fx.reps; simp only [Reps], Nat.le_refl _, by rw [List.drop_zero]; exact p1⟩⟩, ?_⟩
  rintro i mm H ⟨s2, acc, accv, rfl, hle, rfl, at2, hM, hio, hacc, racc, hal, p2⟩
  by_cases hlt : i < xs.length
  · -- a turn
    obtain ⟨x, hx⟩ : ∃ x, xs[i]? = some x := ⟨xs[i], by simp [hlt]⟩
    have hdrop : xs.drop i = x :: xs.drop (i + 1) := by
      rw [List.drop_eq_getElem_cons hlt]
      congr 1
      rw [List.getElem?_eq_getElem hlt] at hx
      exact Option.some.inj hx
    rw [hdrop] at p2
    obtain ⟨jgo, jy⟩ := hw.go s2 at2.ext at2.ok.hr i x hx
    -- what the turn tells
    obtain ⟨o, h', hfx, p3⟩ : ∃ o h', f x s2.h = .ok o h' ∧ Post F z σ W s (RepE F z σ) Q ((goComp f (xs.drop (i + 1)) h' (match o with
        | some u => acc ++ [u]
        | none => acc)).bind fun ys h => .ok (.own (.lst ys)) h) := by
      simp only [goComp] at p2
      cases hr : f x s2.h with
      | ok o h' =>
        rw [hr] at p2
        cases o with
        | some u => exact ⟨some u, h', rfl, p2⟩
        | none => exact ⟨none, h', rfl, p2⟩
      | exc _ _ _ => rw [hr] at p2; exact False.elim p2
      | stuck => rw [hr] at p2; exact False.elim p2
    rw [← hf] at hfx
    simp only at hfx
    cases hbt : bindT gt x z with
    | none => rw [hbt] at hfx; cases hfx
    | some z1 =>
      rw [hbt] at hfx
      simp only at hfx
      obtain ⟨b, h1, ht, hfx⟩ := bind_ok hfx
      refine .inr ⟨jgo, fun H' => Wt (i + 1) (xs.length - (i + 1)) H', fun H' q => ⟨_, by omega, q⟩, fun v H' y => ?_⟩
      obtain ⟨s3, e3, gr, rx⟩ := jy v H' y
      subst e3
      have at3 : At F z σ s s3 := ⟨at2.ext.trans gr.ext, gr.ok at2.ok⟩
      rw [← g.K]
      refine gOf_ok gt rx hbt (by rw [wipe_length]; exact at3.ok.sr.len) fun σ2 bd => ?_
      have bd' : Bound F s3 (tslots gt) z z1 σ σ2 := ⟨bd.lz, by rw [bd.ls, wipe_length], bd.oz, fun i hi => by rw [bd.os i hi, wipe_out hi], bd.val⟩
      have ok3 : Ok F s3 z1 σ2 := bd'.ok at3.ok
      have hM3 : s3.M D := by rcases gr with rfl | ⟨q, o', hq, rfl⟩ <;> exact hM
      have hio3 : D ∉ s3.io := by rcases gr with rfl | ⟨q, o', hq, rfl⟩ <;> exact hio
      have okb : Ok (F.bar D) s3 z1 σ2 := by
        refine ⟨⟨ok3.hr.dom, fun b m => ?_, fun b hb => ⟨(ok3.hr.iot b hb).1, fun m => ?_⟩, ok3.hr.nd, ok3.hr.hp⟩, ⟨ok3.sr.len, ok3.sr.val, fun i u e => ?_, ok3.sr.nc, ok3.sr.sep⟩⟩
        · rcases m with m | rfl
          · exact ok3.hr.sub b m
          · exact hM3
        · rcases m with m | rfl
          · exact (ok3.hr.iot b hb).2 m
          · exact hio3 hb
        · obtain ⟨a, q, c', m', b', n', f'⟩ := ok3.sr.own i u e
          refine ⟨a, q, c', m', fun w => ?_, n', f'⟩
          rcases w with w | rfl
          · exact b' w
          · by_cases hi : i ∈ tslots gt
            · obtain ⟨w, v', e1, _⟩ := bd'.val i hi
              rw [e] at e1; cases e1
            · rw [bd'.oz i hi] at e
              rw [bd'.os i hi] at q
              exact hD_own i u e q
      have hwipe : wipe σ2 (tslots gt) = wipe σ (tslots gt) := by
        apply List.ext_getElem?
        intro j
        by_cases hj : j ∈ tslots gt
        · have e1 : ∀ {τ : L2.St}, j < τ.length → (wipe τ (tslots gt))[j]? = some none := fun {τ} hl => by
            have l1 : j < (wipe τ (tslots gt)).length := by rw [wipe_length]; exact hl
            rw [List.getElem?_eq_getElem l1]
            cases q : (wipe τ (tslots gt))[j] with
            | none => rfl
            | some v' =>
              have := wipe_some (σ := τ) (i := j) (x := v') (vs := tslots gt) (by rw [List.getElem?_eq_getElem l1, q])
              exact absurd hj this.2
          obtain ⟨w, v', _, e2, _⟩ := bd'.val j hj
          have l2 : j < σ2.length := (List.getElem?_eq_some_iff.mp e2).1
          rw [e1 l2, e1 (by rw [← bd'.ls]; exact l2)]
        · rw [wipe_out hj, wipe_out hj, bd'.os j hj]
      refine ⟨hwipe, fun sS sH C cl fp => ?_⟩
      have h3h : s3.h = s2.h := gr.h
      -- back to the comprehension's own state
      have back : ∀ {s4 : S0}, ExtS s3 s4 → Ok (F.bar D) s4 z1 σ2 → At F z σ s s4 ∧ s4.M D ∧ D ∉ s4.io ∧ s4.H D = some (.lst accv) ∧ F.reps s4 acc accv := fun {s4} x4 ok4 => by
        have o4 : Ok F s4 z σ := Ok.outer at3.ok hcv' bd'.oz bd'.os x4 ok4
        refine ⟨⟨at3.ext.trans x4, o4⟩, ok4.hr.sub D (.inr rfl), fun q => (ok4.hr.iot D q).2 (.inr rfl), ?_, ?_⟩
        · have e4 : s3.H D = some (.lst accv) := by
            rcases gr with rfl | ⟨q, o', hq, rfl⟩
            · exact hacc
            · show upd s2.H q o' D = _
              rw [upd_ne (by rintro rfl; rw [hacc] at hq; cases hq)]
              exact hacc
          refine Ext.keep x4 D _ e4 fun w => hio3 ?_
          cases hh : s3.h with
          | none => rw [hh] at w; exact False.elim w
          | some _ => rw [hh] at w; exact w
        · exact x4.reps at3.ok.hr (gr.ext.reps at2.ok.hr racc)
      refine hTs D sS sH C cl fp okb (Q := fun b H3 => if b = true then teC X scope elt σ2 H3 _ else _) ?_
      rw [h3h]
      have ht' : evTs (F.bar D).T (phi P n) z1 cs s2.h = .ok b h1 := ht
      rw [ht']
      intro s4 b' e4 x4 ok4 rb
      obtain rfl : b = b' := rb
      cases b with
      | false =>
        rw [if_neg (by decide)]
        cases hfx
        obtain ⟨c1, c2, c3, c4, c5⟩ := back x4 ok4
        exact ⟨s4, acc, accv, rfl, hlt, rfl, c1, c2, c3, c4, c5, by omega, by rw [e4]; exact p3⟩
      | true =>
        rw [if_pos rfl]
        simp only at hfx
        obtain ⟨r, h2, hev, hfx⟩ := bind_ok hfx
        obtain ⟨u, h3', hk, hfx⟩ := bind_ok hfx
        cases hfx
        intro sS' sH' C' cl' fp'
        refine hE D sS' sH' C' cl' fp' ok4 ?_
        have hev' : evE (F.bar D).T (phi P n) z1 c s4.h = .ok r h2 := by rw [e4]; exact hev
        rw [hev']
        intro s5 y e5 x5 ok5 r5
        obtain ⟨s6, q6, q7, x6, at6, hd6⟩ := r5.held ok4 ⟨x5, ok5⟩
        obtain rfl : h' = h2 := by cases r <;> cases hk <;> rfl
        have hk' : r.keep s6.h = .ok u h' := by rw [q7, e5]; exact hk
        have ru := hd6.keep hk'
        obtain ⟨c1, c2, c3, c4, c5⟩ := back (x4.trans at6.ext) at6.ok
        rw [← q6]
        refine ⟨accv, c4, ?_, ?_⟩
        · have l1 := Reps.length racc
          have l2 := hw.len
          omega
        · have lo : ∀ (i : Nat) u, z[i]? = some (some (.own u)) → σ[i]? ≠ some (some (.ref D)) := hD_own
          refine ⟨{ s6 with H := upd s6.H D (.lst (accv ++ [y])) }, acc ++ [u], accv ++ [y], rfl, hlt, rfl, ⟨?_, c1.ok.wrote c2 c3 lo⟩, c2, c3, upd_same, ?_, by simp; omega, ?_⟩
          · refine ⟨c1.ext.pre, fun b o' e nw => ?_, c1.ext.mx, c1.ext.on, fun b o' e => ?_⟩
            · show upd s6.H D _ b = some o'
              rw [upd_ne (by rintro rfl; rw [hD] at e; cases e)]
              exact c1.ext.keep b o' e nw
            · obtain ⟨o2, e2⟩ := c1.ext.stay b o' e
              refine ⟨o2, ?_⟩
              show upd s6.H D _ b = some o2
              rw [upd_ne (by rintro rfl; rw [hD] at e; cases e)]
              exact e2
          · have mo : Mo s6.io s6.M s6.H s6.io s6.M (upd s6.H D (.lst (accv ++ [y]))) := ⟨⟨[], by simp⟩, fun b o' e nm => by
              rw [upd_ne (by rintro rfl; exact nm c2)]; exact e, fun _ m => .inl m⟩
            refine Reps.mo mo (Reps.append c5 ?_)
            simp only [Reps]
            exact ⟨ru, trivial⟩
          · show Post F z σ W s (RepE F z σ) Q ((goComp f (xs.drop (i + 1)) s6.h (acc ++ [u])).bind fun ys h => .ok (.own (.lst ys)) h)
            rw [q7, e5]
            exact p3
  · -- the end
    have e : i = xs.length := by omega
    subst e
    refine .inl ⟨hw.stop s2 at2.ext at2.ok.hr _ (Nat.le_refl _), ?_⟩
    rw [List.drop_length] at p2
    simp only [goComp] at p2
    exact p2 s2 (.ref D) rfl at2.ext at2.ok ⟨D, rfl, ⟨accv, hacc, racc⟩, hM, hBD, hio, hD⟩
theorem MMs.len {m : ME} : ∀ {cs : List CE} {es : List Expr}, MMs nm df m cs es → cs.length = es.length
  | [], _, h => by cases h; rfl
  | _ :: _, _, h => by
    cases h with
    | cons _ _ h3 => rw [List.length_cons, List.length_cons, MMs.len h3]
theorem base_of_ {x : Expr} (h : baseB x = true) (a : Str) (env : Env) (w : Sem Value) : attributeBase x a env w = w := by
  cases x with
  | Call f as ks pos =>
    cases f with
    | Name i p =>
      cases as with
      | nil =>
        cases ks with
        | nil => simp [baseB] at h
        | cons _ _ => rfl
      | cons _ _ => rfl
    | _ => rfl
  | _ => rfl
theorem strs_vals {F : Fx} {s : S0} : ∀ {xs : List U} {ys : List Str} {vs : List V}, asStrs xs = some ys → F.reps s xs vs → vs = ys.map V.str
  | [], ys, [], h, _ => by cases h; rfl
  | x :: xs, ys, v :: vs, h, r => by
    have r' := r
    unfold Fx.reps at r'
    simp only [Reps] at r'
    cases x with
    | str a =>
      cases e : asStrs xs with
      | none => simp [asStrs, e] at h
      | some zs =>
        simp [asStrs, e] at h
        subst h
        have hv : v = .str a := r'.1
        rw [hv, strs_vals e r'.2]
        rfl
    | _ => cases h
  | [], _, _ :: _, _, r => by
    have r' := r
    unfold Fx.reps at r'
    simp only [Reps] at r'
  | _ :: _, _, [], _, r => by
    have r' := r
    unfold Fx.reps at r'
    simp only [Reps] at r'
theorem joinE {n : Nat} {F : Fx} {X : Cx} {m : ME} {W : WX} (g : Good nm df P n F X m W) {o c : CE} {x y : Expr} {pa q : Pos} (hb : baseB x = true) (hln : (pa.endLine == q.line) = true) (s1 : starB y = false) {t : S0} {z : Slots} {σ : L2.St} {Q : VK} (ok : Ok F t z σ)
    (ho : ∀ Q : VK, Post F z σ W t (RepE F z σ) Q (evE F.T (phi P n) z o t.h) → EAt X x σ t.H Q)
    (hc : ∀ (s : S0) (Q : List V → Hp → Prop), Ok F s z σ → Post F z σ W s (fun _ s us vs => SeenL F s us vs) Q (evSs F.T (phi P n) z [c] s.h) → AAt X [y] σ s.H Q)
    (p : Post F z σ W t (RepE F z σ) Q (evE F.T (phi P n) z (.bm .join o [c]) t.h)) : EAt X (.Call (.Attribute x "join" pa) [y] [] q) σ t.H Q := by
  simp only [evE] at p
  have hbase : attributeBase x "join" X.env (eval x X.env) = eval x X.env := base_of_ hb _ _ _
  refine atE (pe_bm PySem.F.plainAttrs_str PySem.F.slot_str_join PySem.F.type_str_join mt_join pe_at pa_at hbase (by rw [star_of s1]; rfl) hln (star_of s1 _ _) rfl) ?_
  refine (ho _ (Post.hold ok RepE.mono p)).imp fun xo H1 ⟨s, e1, q1, a1, d1, p1⟩ => ?_
  subst q1
  obtain ⟨_, k1, p2⟩ := p1.opt
  cases k2 : e1.see z s.h with
  | none => rw [k2] at k1; cases k1
  | some u =>
    rw [k2] at k1
    cases u with
    | str a =>
      obtain rfl := (d1.see a1.ok k2).str
      refine ⟨rfl, ?_⟩
      refine (hc s _ a1.ok (Post.bind (R := fun _ s us vs => SeenL F s us vs) RepE.mono p2)).imp fun vs H2 ⟨s2, us, q2, a2, r2, p3⟩ => ?_
      subst q2
      obtain ⟨e', k3, p4⟩ := p3.opt1
      have k4 : e1.see z s2.h = some (.str a) := by
        cases e1 with
        | fz w =>
          cases w with
          | ref n =>
            exfalso
            obtain ⟨a', e5, e6⟩ : F.rep s (.ref n) (.str a) := d1
            cases e6
          | _ => exact k2
        | own w => exact k2
        | loc i => exact k2
      rw [k4] at k3
      have k3 : bmeth .join (.str a) us = some e' := k3
      obtain ⟨xs, rfl⟩ : ∃ xs, us = [.lst xs] := by
        rcases us with _ | ⟨u1, _ | ⟨u2, us⟩⟩
        · cases k3
        · cases u1 with
          | lst xs => exact ⟨xs, rfl⟩
          | _ => cases k3
        · cases u1 with
          | lst xs => cases k3
          | _ => cases k3
      have k3 : ((asStrs xs).bind fun ys => if (ys.map (·.length)).sum + ys.length * a.length ≤ line then some (E.fz (.str (Str.join a ys))) else none) = some e' := k3
      obtain ⟨v, rfl, qv⟩ := SeenL.one r2
      obtain ⟨p', vs', rfl, ql, rl⟩ := qv.lst
      cases k5 : asStrs xs with
      | none => rw [k5] at k3; cases k3
      | some ys =>
        rw [k5] at k3
        simp only [Option.bind_some] at k3
        split at k3
        · rename_i hle
          cases k3
          have hv := strs_vals k5 rl
          rw [hv] at ql
          refine ⟨a, p', ys, rfl, rfl, .inl (.inl ql), hle, ?_⟩
          rw [TL.join_eq]
          exact fz_of a2.ok p4 rep_str
        · cases k3
    | _ => cases k1
theorem bmE {n : Nat} {F : Fx} {X : Cx} {m : ME} {W : WX} {b : Bm} {o : CE} {es : List CE} {e : Expr} (g : Good nm df P n F X m W) (h : MM nm df m (.bm b o es) e) {t : S0} {z : Slots} {σ : L2.St} {Q : VK} (ok : Ok F t z σ)
    (ho : ∀ {x : Expr}, MM nm df m o x → ∀ Q : VK, Post F z σ W t (RepE F z σ) Q (evE F.T (phi P n) z o t.h) → EAt X x σ t.H Q)
    (hc : ∀ {ys : List Expr}, MMs nm df m es ys → ∀ (s : S0) (Q : List V → Hp → Prop), Ok F s z σ → Post F z σ W s (fun _ s us vs => SeenL F s us vs) Q (evSs F.T (phi P n) z es s.h) → AAt X ys σ s.H Q)
    (p : Post F z σ W t (RepE F z σ) Q (evE F.T (phi P n) z (.bm b o es) t.h)) : EAt X e σ t.H Q := by
  cases h with
  | join hb hln hl h1 h2 =>
    rename_i x ys pa q
    rcases ys with _ | ⟨y, _ | ⟨y2, ys⟩⟩
    · simp at hl
    · have h2' := h2
      cases h2' with
      | cons s1 h3 h4 =>
        cases h4
        exact joinE g hb hln s1 ok (ho h1) (hc h2) p
    · simp at hl
mutual
theorem sndE : ∀ (c : CE) {n : Nat} {F : Fx} {X : Cx} {m : ME} {W : WX} {e : Expr} (g : Good nm df P n F X m W) (h : MM nm df m c e) {t : S0} {z : Slots} {σ : L2.St} {Q : VK} (ok : Ok F t z σ) (p : Post F z σ W t (RepE F z σ) Q (evE F.T (phi P n) z c t.h)), EAt X e σ t.H Q
  | .var i, n, F, X, m, W, e, g, h, t, z, σ, Q, ok, p => by
    cases h with
    | var hv =>
      obtain ⟨h1, h2, h3, h4⟩ := vis_of g hv
      simp only [evE] at p
      split at p
      · rename_i u hu
        obtain ⟨v, e1, r⟩ := ok.sr.val i u hu
        exact atE (pe_var h1 h2 h3 h4) ⟨v, e1, p.here ok r⟩
      · rename_i u hu
        obtain ⟨a, e1, _⟩ := ok.sr.own i u hu
        exact atE (pe_var h1 h2 h3 h4) ⟨.ref a, e1, p.here (R := RepE F z σ) ok ⟨e1, u, hu⟩⟩
      · exact False.elim p
  | .cst c, n, F, X, m, W, e, g, h, t, z, σ, Q, ok, p => by
    cases h with
    | cst hg hx =>
      obtain ⟨gl, hd⟩ := gl_of g hg
      subst hx
      simp only [evE] at p
      split at p
      · rename_i u hu
        rw [g.T] at hu
        obtain ⟨v, w, e1, e2, e3⟩ := g.cs c u hu
        refine atE (pe_glob gl e1 e2 hd) (p.here (R := RepE F z σ) ok ?_)
        have q := e3 t.io t.M t.H
        rw [← g.T] at q
        exact q
      · exact False.elim p
  | .non, n, F, X, m, W, e, g, h, t, z, σ, Q, ok, p => by
    cases h with
    | non => simp only [evE] at p; exact atE pe_non (fz_of ok p rep_non)
  | .bl b, n, F, X, m, W, e, g, h, t, z, σ, Q, ok, p => by
    cases h with
    | bl => simp only [evE] at p; exact atE pe_bl (fz_of ok p rep_bl)
  | .int b, n, F, X, m, W, e, g, h, t, z, σ, Q, ok, p => by
    cases h with
    | int => simp only [evE] at p; exact atE pe_int (fz_of ok p rep_int)
  | .str b, n, F, X, m, W, e, g, h, t, z, σ, Q, ok, p => by
    cases h with
    | str => simp only [evE] at p; exact atE pe_str (fz_of ok p rep_str)
  | .tup es, n, F, X, m, W, e, g, h, t, z, σ, Q, ok, p => by
    cases h with
    | tup hs hl =>
      simp only [evE] at p
      refine atE (pe_tup pa_at) ((sndK es g hs ok (Post.bind RepE.mono p)).imp fun vs H1 ⟨s, us, e1, a1, r, p1⟩ => ?_)
      subst e1
      refine ⟨by
        rw [← Reps.length r.1, r.2, ← line_eq, MMs.len hs]
        exact hl, fun q hq => ?_⟩
      obtain ⟨s', e3, e4, a', r'⟩ := new_tup a1.ok hq r.1
      rw [← e4]
      exact p1 s' _ e3 a'.ext a'.ok r'
  | .lst es, n, F, X, m, W, e, g, h, t, z, σ, Q, ok, p => by
    cases h with
    | lst hs hl =>
      simp only [evE] at p
      refine atE (pe_lst pa_at) ((sndK es g hs ok (Post.bind RepE.mono p)).imp fun vs H1 ⟨s, us, e1, a1, r, p1⟩ => ?_)
      subst e1
      refine ⟨by
        rw [← Reps.length r.1, r.2, ← line_eq, MMs.len hs]
        exact hl, fun q hq => ?_⟩
      obtain ⟨s', e3, e4, a', r'⟩ := new_lst a1.ok hq r.1
      rw [← e4]
      exact p1 s' _ e3 a'.ext a'.ok r'
  | .dct ks vs, n, F, X, m, W, e, g, h, t, z, σ, Q, ok, p => by
    cases h with
    | dct0 =>
      simp only [evE] at p
      refine atE pe_dnewK fun a ha => ?_
      have a' : At F z σ t { t with H := upd t.H a (.dK []), M := fun b => t.M b ∨ b = a } := ⟨ExtS.updM ha, ok.updM ha⟩
      exact p { t with H := upd t.H a (.dK []), M := fun b => t.M b ∨ b = a } (.ref a) rfl a'.ext a'.ok ⟨a, rfl, ⟨[], upd_same, by simp only [RepD]⟩, .inr rfl, fun m => ok.hr.fresh ha (ok.hr.sub a m), fun m => ok.hr.fresh ha (ok.hr.iot a m).1, ha⟩
  | .op o a b, n, F, X, m, W, e, g, h, t, z, σ, Q, ok, p => by
    cases h with
    | op hq ha hb =>
      simp only [evE] at p
      refine atE (pe_op opAny pe_at pe_at) ((sndE a g ha ok (Post.hold ok RepE.mono p)).imp fun x H1 ⟨s, e1, q1, a1, d1, p1⟩ => ?_)
      subst q1
      refine (sndE b g hb a1.ok (Post.hold a1.ok RepE.mono p1)).imp fun y H2 ⟨s2, e2, q2, a2, d2, p2⟩ => ?_
      subst q2
      obtain ⟨r, hr, p3⟩ := p2.opt1
      obtain ⟨u, v, k1, k2, k3⟩ := see2_some hr
      exact bop_ok g.K hq a2.ok ((d1.ext a1.ok.hr a2.ext).see a2.ok k1) (d2.see a2.ok k2) k3 p3
  | .neg a, n, F, X, m, W, e, g, h, t, z, σ, Q, ok, p => by
    cases h with
    | neg ha =>
      simp only [evE] at p
      refine atE (pe_un un_neg pe_at) ((sndE a g ha ok (Post.seenB ok RepE.mono p)).imp fun x H1 ⟨s, u, q1, a1, d1, p1⟩ => ?_)
      subst q1
      cases u with
      | int i =>
        obtain rfl := d1.int
        exact ⟨i, rfl, fz_of a1.ok p1 rep_int⟩
      | _ => exact False.elim p1
  | .test t', n, F, X, m, W, e, g, h, t, z, σ, Q, ok, p => by
    cases h with
    | test hv =>
      simp only [evE] at p
      refine (sndV t' g hv ok (Post.bind (R := RepV) RepE.mono p)).imp fun x H1 ⟨s, b, q1, a1, d1, p1⟩ => ?_
      subst q1
      obtain rfl : x = .bl b := d1
      exact fz_of a1.ok p1 rep_bl
  | .cmp o a b, n, F, X, m, W, e, g, h, t, z, σ, Q, ok, p => by
    cases h with
    | cmp hq hm ha hb =>
      simp only [evE] at p
      refine atE (pe_cmpR opAny pe_at pe_at hm) ((sndE a g ha ok (Post.hold ok RepE.mono p)).imp fun x H1 ⟨s, e1, q1, a1, d1, p1⟩ => ?_)
      subst q1
      refine (sndE b g hb a1.ok (Post.hold a1.ok RepE.mono p1)).imp fun y H2 ⟨s2, e2, q2, a2, d2, p2⟩ => ?_
      subst q2
      obtain ⟨r, hr, p3⟩ := p2.opt
      obtain ⟨u, v, k1, k2, k3⟩ := see2_some hr
      exact cop_ok g.K (Ok.units g) hq ((d1.ext a1.ok.hr a2.ext).see a2.ok k1) (d2.see a2.ok k2) k3 (fz_of a2.ok p3 rep_bl)
  | .chain o o' a b c, n, F, X, m, W, e, g, h, t, z, σ, Q, ok, p => by
    cases h with
    | chain hq hq' hm ha hb hc =>
      simp only [evE] at p
      refine atE (pe_chain opAny opAny pe_at pe_at pe_at (last_of hm)) ((sndE a g ha ok (Post.hold ok RepE.mono p)).imp fun x H1 ⟨s, e1, q1, a1, d1, p1⟩ => ?_)
      subst q1
      refine (sndE b g hb a1.ok (Post.hold a1.ok RepE.mono p1)).imp fun y H2 ⟨s2, e2, q2, a2, d2, p2⟩ => ?_
      subst q2
      obtain ⟨r, hr, p3⟩ := p2.opt
      obtain ⟨u, v, k1, k2, k3⟩ := see2_some hr
      refine cop_ok g.K (Ok.units g) hq ((d1.ext a1.ok.hr a2.ext).see a2.ok k1) (d2.see a2.ok k2) k3 ⟨r, rfl, ?_⟩
      cases r with
      | false =>
        rw [if_neg (by decide)]
        exact fz_of a2.ok p3 rep_bl
      | true =>
        rw [if_pos rfl]
        refine (sndE c g hc a2.ok (Post.hold a2.ok RepE.mono p3)).imp fun w H3 ⟨s3, e3, q3, a3, d3, p4⟩ => ?_
        subst q3
        obtain ⟨r, hr, p5⟩ := p4.opt
        obtain ⟨u, v, k1, k2, k3⟩ := see2_some hr
        exact cop_ok g.K (Ok.units g) hq' ((d2.ext a2.ok.hr a3.ext).see a3.ok k1) (d3.see a3.ok k2) k3 (fz_of a3.ok p5 rep_bl)
  | .call f es k, n, F, X, m, W, e, g, h, t, z, σ, Q, ok, p => by
    cases h with
    | call hdf hg hx hne hs =>
      simp only [evE] at p
      rename_i x xs px px2
      cases xs with
      | nil => exact absurd rfl hne
      | cons y ys =>
        cases hs with
        | cons s1 h1 h2 =>
          rename_i c cs
          obtain ⟨gl, hd⟩ := gl_of g hg
          subst hx
          refine callE g hdf gl hd s1 h2 ?_
          refine (sndK (c :: cs) g (.cons s1 h1 h2) ok (Post.bind (R := RepK F (cs.length + 1)) RepE.mono p)).imp fun vs H1 ⟨s, us, q1, a1, r1, p1⟩ => ?_
          subst q1
          exact ⟨s, us, z, rfl, a1.ok, r1.1, by simpa using p1⟩
  | .make _ _ _, n, F, X, m, W, e, g, h, t, z, σ, Q, ok, p => by cases h
  | .meth _ _ _, n, F, X, m, W, e, g, h, t, z, σ, Q, ok, p => by cases h
  | .callv _ _, n, F, X, m, W, e, g, h, t, z, σ, Q, ok, p => by cases h
  | .bf b es, n, F, X, m, W, e, g, h, t, z, σ, Q, ok, p => by
    cases h with
    | bf hg hx hb hne hs =>
      simp only [evE] at p
      rename_i x xs px px2
      cases xs with
      | nil => exact absurd rfl hne
      | cons y ys =>
        cases hs with
        | cons s1 h1 h2 =>
          rename_i c cs
          obtain ⟨gl, hd⟩ := gl_of g hg
          subst hx
          have hm := g.bl _ (bfS_in hb)
          have ih := (sndS (c :: cs) g (.cons s1 h1 h2) ok (Post.bind (R := fun _ s us vs => SeenL F s us vs) RepE.mono p)).imp fun vs H1 ⟨s, us, q1, a1, r1, p1⟩ => show (∃ r : List V → Hp → VK → Prop, CallR X (bfV b) r ∧ r vs H1 Q) by
            subst q1
            obtain ⟨e', k1, p2⟩ := p1.opt1
            exact bfun_ok g.K g.calm a1.ok r1 k1 p2
          rcases bfS_boot hb with ⟨id, e1, e2⟩ | ⟨T, e1, e2⟩
          · rw [e1] at ih
            exact atE (pe_callB callAny gl hm e2 pa_at (bfS_name hb).1 (bfS_name hb).2 (star_of s1 _ _) (plain_of _ h2 _ _)) ih
          · rw [e1] at ih
            exact atE (pe_callTy callAny gl hm e2 pa_at (bfS_name hb).1 (bfS_name hb).2 (star_of s1 _ _) (plain_of _ h2 _ _)) ih
  | .bm b o es, n, F, X, m, W, e, g, h, t, z, σ, Q, ok, p => bmE g h ok (fun h' _ q => sndE o g h' ok q) (fun h' _ _ ok q => sndS es g h' ok q) p
  | .mm _ _ _, n, F, X, m, W, e, g, h, t, z, σ, Q, ok, p => by cases h
  | .isty a ts, n, F, X, m, W, e, g, h, t, z, σ, Q, ok, p => by
    cases h with
    | isty hg hx hg2 hz s1 ha =>
      rename_i t' x0 y px px2 zn px3
      obtain ⟨gl, hd⟩ := gl_of g hg
      obtain ⟨gl2, hd2⟩ := gl_of g hg2
      subst hx
      subst hz
      simp only [evE] at p
      have hm := g.bl ("isinstance" : Str) (by simp)
      have hm2 : X.mg (tyS t') = none := g.bl _ (by cases t' <;> simp [tyS])
      have hv2 : bootBuiltins (tyS t') = some (.type (tyN t')) := by cases t' <;> decide +kernel
      refine atE (pe_callB (id := "isinstance") callAny gl hm (by decide +kernel) (pa_cons pe_at (pa_cons (pe_bltn (v := .ty (tyN t')) gl2 hm2 hv2 rfl (by cases t' <;> decide +kernel) (by cases t' <;> decide +kernel)) pa_nil rfl) (star_of s1 _ _)) (by decide +kernel) (by decide +kernel) (star_of s1 _ _) rfl) ?_
      refine (sndE a g ha ok (Post.seenB ok RepE.mono p)).imp fun x H1 ⟨s, u, q1, a1, d1, p1⟩ => ?_
      subst q1
      obtain ⟨b, k1, p2⟩ := p1.opt
      unfold isTys isTy at k1
      cases k2 : knd u with
      | none => rw [k2] at k1; cases k1
      | some k =>
        rw [k2] at k1
        have hb : knTy k t' = b := by
          simp only [Option.map_some] at k1
          cases k3 : knTy k t' <;> rw [k3] at k1 <;> simp [isTys] at k1 <;> exact k1.symm
        refine ⟨_, call_isi, x, .ty (tyN t'), .type (knS k), .type (tyN t'), knTy k t', rfl, ?_, seen_ty g.K k2 d1, kit_ty (kn_kit k t'), ?_⟩
        · exact .ty _
        · rw [hb]
          exact fz_of a1.ok p2 rep_bl
  | .iscl _ _, n, F, X, m, W, e, g, h, t, z, σ, Q, ok, p => by cases h
  | .attr _ _, n, F, X, m, W, e, g, h, t, z, σ, Q, ok, p => by cases h
  | .ix o i, n, F, X, m, W, e, g, h, t, z, σ, Q, ok, p => by
    cases h with
    | ix hp ha hb =>
      simp only [evE] at p
      have hs : ∀ y : Expr, plainB y = true → PlainIx y := fun y hy o i => by
        cases y <;> first | rfl | (simp [plainB] at hy)
      refine atE (pe_ix ixAny pe_at pe_at (hs _ hp)) ((sndE o g ha ok (Post.hold ok RepE.mono p)).imp fun x H1 ⟨s, e1, q1, a1, d1, p1⟩ => ?_)
      subst q1
      refine (sndE i g hb a1.ok (Post.hold a1.ok RepE.mono p1)).imp fun y H2 ⟨s2, e2, q2, a2, d2, p2⟩ => ?_
      subst q2
      obtain ⟨r, hr, p3⟩ := p2.opt
      obtain ⟨u, v, k1, k2, k3⟩ := see2_some hr
      exact ix_ok (by have := g.room.un; omega) g.K a2.ok ((d1.ext a1.ok.hr a2.ext).see a2.ok k1) (d2.see a2.ok k2) k3 p3
  | .slice o lo hi, n, F, X, m, W, e, g, h, t, z, σ, Q, ok, p => by
    cases h with
    | slice ha hl hh =>
      simp only [evE] at p
      refine atE (pe_slice slAny pe_at po_at po_at) ((sndE o g ha ok (Post.hold ok RepE.mono p)).imp fun x H1 ⟨s, e1, q1, a1, d1, p1⟩ => ?_)
      subst q1
      refine (sndO lo g hl a1.ok (Post.bind (R := RepO) RepE.mono p1)).imp fun i H2 ⟨s2, i', q2, a2, d2, p2⟩ => ?_
      subst q2
      obtain rfl : i' = i := d2
      refine (sndO hi g hh a2.ok (Post.bind (R := RepO) RepE.mono p2)).imp fun j H3 ⟨s3, j', q3, a3, d3, p3⟩ => ?_
      subst q3
      obtain rfl : j' = j := d3
      obtain ⟨e', k1, p4⟩ := p3.opt1
      cases k2 : e1.see z s3.h with
      | none => rw [k2] at k1; cases k1
      | some u =>
        rw [k2] at k1
        exact sl_ok g.K a3.ok (((d1.ext a1.ok.hr a2.ext).ext a2.ok.hr a3.ext).see a3.ok k2) k1 p4
  | .comp gt it cs e', n, F, X, m, W, e, g, h, t, z, σ, Q, ok, p => by
    cases h with
    | comp hb hcv hsb hg hi hcs hc1 he =>
      rename_i tg elt iter ifs scope pp
      exact atE (pe_lc g.calm (by rw [g.hN]; exact g.nd) pi_at (blkOk_by (by rw [g.hN, g.sc]; exact hb)) (fun s H C cl fp => by
        have G := g.blk 0 scope s H C cl fp
        exact pgOf G.hN G.sc G.fn G.nd G.calm gt hg) (fun s H C cl fp => ⟨fun pins s' σ' H' Q' I hq => hq s H C cl fp pins s' I⟩) (fun s H C cl fp => ⟨fun pins s' σ' H' Q' I hq => hq s H C cl fp pins s' I⟩) (set_of hsb _))
        (compOk g ok hcv (fun Q p => sndI it g hi hg ok p) (fun D s0 H0 C cl fp _ _ _ _ ok p => sndTs cs (g.blk D scope s0 H0 C cl fp) hcs hc1 ok p) (fun D s0 H0 C cl fp _ _ _ _ ok p => sndE e' (g.blk D scope s0 H0 C cl fp) he ok p) p)
  | .fstr _, n, F, X, m, W, e, g, h, t, z, σ, Q, ok, p => by cases h
theorem sndK : ∀ (cs : List CE) {n : Nat} {F : Fx} {X : Cx} {m : ME} {W : WX} {es : List Expr} (g : Good nm df P n F X m W) (h : MMs nm df m cs es) {t : S0} {z : Slots} {σ : L2.St} {Q : List V → Hp → Prop} (ok : Ok F t z σ) (p : Post F z σ W t (RepK F cs.length) Q (evK F.T (phi P n) z cs t.h)), AAt X es σ t.H Q
  | [], n, F, X, m, W, es, g, h, t, z, σ, Q, ok, p => by
    cases h with
    | nil =>
      simp only [evK] at p
      exact atA pa_nil (p.here (R := RepK F 0) ok ⟨by unfold Fx.reps; simp only [Reps], rfl⟩)
  | c :: cs, n, F, X, m, W, es, g, h, t, z, σ, Q, ok, p => by
    cases h with
    | cons hs h1 h2 =>
      simp only [evK] at p
      refine atA (pa_cons pe_at pa_at (star_of hs _ _)) ((sndE c g h1 ok (Post.hold ok RepK.mono p)).imp fun x H1 ⟨s, e1, q1, a1, d1, p1⟩ => ?_)
      subst q1
      cases k1 : e1.keep s.h with
      | stuck => rw [k1] at p1; exact False.elim p1
      | exc _ _ _ => cases e1 <;> cases k1
      | ok u h' =>
        obtain rfl : h' = s.h := by cases e1 <;> cases k1 <;> rfl
        rw [k1] at p1
        have p1 : Post F z σ W s (RepK F (cs.length + 1)) Q ((evK F.T (phi P n) z cs s.h).bind fun us h => .ok (u :: us) h) := p1
        have ru := d1.keep k1
        refine (sndK cs g h2 a1.ok (Post.bind (R := RepK F cs.length) RepK.mono p1)).imp fun vs H2 ⟨s2, us, q2, a2, r2, p2⟩ => ?_
        subst q2
        refine p2.here (R := RepK F (cs.length + 1)) a2.ok ⟨?_, ?_⟩
        · unfold Fx.reps
          simp only [Reps]
          exact ⟨a2.ext.rep a1.ok.hr ru, r2.1⟩
        · rw [List.length_cons, r2.2]
theorem sndT : ∀ (c : CT) {n : Nat} {F : Fx} {X : Cx} {m : ME} {W : WX} {e : Expr} (g : Good nm df P n F X m W) (h : MT nm df m c e) {t : S0} {z : Slots} {σ : L2.St} {Q : Bool → Hp → Prop} (ok : Ok F t z σ) (p : Post F z σ W t RepB Q (evT F.T (phi P n) z c t.h)), TAt X e σ t.H Q
  | .val c, n, F, X, m, W, e, g, h, t, z, σ, Q, ok, p => by
    cases h with
    | val hv hc =>
      simp only [evT] at p
      refine atT (pt_truth pe_at (val_of hv _)) ((sndE c g hc ok (Post.seenB ok RepB.mono p)).imp fun x H1 ⟨s, u, q1, a1, d1, p1⟩ => ?_)
      subst q1
      obtain ⟨b, k1, p2⟩ := p1.opt1
      exact ⟨b, tru_of g.K k1 d1, p2.here (R := RepB) a1.ok rfl⟩
  | .bv c, n, F, X, m, W, e, g, h, t, z, σ, Q, ok, p => by cases h
  | .cmp o a b, n, F, X, m, W, e, g, h, t, z, σ, Q, ok, p => by
    cases h with
    | cmp hq hm ha hb =>
      simp only [evT] at p
      refine atT (pt_cmpR opAny pe_at pe_at hm) ((sndE a g ha ok (Post.hold ok RepB.mono p)).imp fun x H1 ⟨s, e1, q1, a1, d1, p1⟩ => ?_)
      subst q1
      refine (sndE b g hb a1.ok (Post.hold a1.ok RepB.mono p1)).imp fun y H2 ⟨s2, e2, q2, a2, d2, p2⟩ => ?_
      subst q2
      obtain ⟨r, hr, p3⟩ := p2.opt1
      obtain ⟨u, v, k1, k2, k3⟩ := see2_some hr
      exact cop_ok g.K (Ok.units g) hq ((d1.ext a1.ok.hr a2.ext).see a2.ok k1) (d2.see a2.ok k2) k3 ⟨r, rfl, p3.here (R := RepB) a2.ok rfl⟩
  | .chain o o' a b c, n, F, X, m, W, e, g, h, t, z, σ, Q, ok, p => by
    cases h with
    | chain hq hq' hm ha hb hc =>
      simp only [evT] at p
      refine atT (pt_chain opAny opAny pe_at pe_at pe_at (last_of hm)) ((sndE a g ha ok (Post.hold ok RepB.mono p)).imp fun x H1 ⟨s, e1, q1, a1, d1, p1⟩ => ?_)
      subst q1
      refine (sndE b g hb a1.ok (Post.hold a1.ok RepB.mono p1)).imp fun y H2 ⟨s2, e2, q2, a2, d2, p2⟩ => ?_
      subst q2
      obtain ⟨r, hr, p3⟩ := p2.opt
      obtain ⟨u, v, k1, k2, k3⟩ := see2_some hr
      refine cop_ok g.K (Ok.units g) hq ((d1.ext a1.ok.hr a2.ext).see a2.ok k1) (d2.see a2.ok k2) k3 ⟨r, rfl, ?_⟩
      cases r with
      | false =>
        rw [if_neg (by decide)]
        exact ⟨false, rfl, p3.here (R := RepB) a2.ok rfl⟩
      | true =>
        rw [if_pos rfl]
        refine (sndE c g hc a2.ok (Post.hold a2.ok RepB.mono p3)).imp fun w H3 ⟨s3, e3, q3, a3, d3, p4⟩ => ?_
        subst q3
        obtain ⟨r, hr, p5⟩ := p4.opt1
        obtain ⟨u, v, k1, k2, k3⟩ := see2_some hr
        exact cop_ok g.K (Ok.units g) hq' ((d2.ext a2.ok.hr a3.ext).see a3.ok k1) (d3.see a3.ok k2) k3 ⟨r, rfl, p5.here (R := RepB) a3.ok rfl⟩
  | .not t', n, F, X, m, W, e, g, h, t, z, σ, Q, ok, p => by
    cases h with
    | not ht =>
      simp only [evT] at p
      refine atT (pt_not pt_at) ((sndT t' g ht ok (Post.bind (R := RepB) RepB.mono p)).imp fun b H1 ⟨s, b', q1, a1, d1, p1⟩ => ?_)
      subst q1
      obtain rfl : b' = b := d1
      exact p1.here (R := RepB) a1.ok rfl
  | .notv c, n, F, X, m, W, e, g, h, t, z, σ, Q, ok, p => by cases h
  | .and ts, n, F, X, m, W, e, g, h, t, z, σ, Q, ok, p => by
    cases h with
    | and ht hne =>
      simp only [evT] at p
      exact (sndAnd ts g ht hne ok p).ta
  | .or ts, n, F, X, m, W, e, g, h, t, z, σ, Q, ok, p => by
    cases h with
    | or ht hne =>
      simp only [evT] at p
      exact (sndOr ts g ht hne ok p).ta
theorem sndAnd : ∀ (ts : List CT) {n : Nat} {F : Fx} {X : Cx} {m : ME} {W : WX} {es : List Expr} {pos : Pos} (g : Good nm df P n F X m W) (h : MTs nm df m ts es) (hne : es ≠ []) {t : S0} {z : Slots} {σ : L2.St} {Q : Bool → Hp → Prop} (ok : Ok F t z σ) (p : Post F z σ W t RepB Q (evAnd F.T (phi P n) z ts t.h)), WAt X (.BoolOp .And es pos) σ t.H Q
  | [], n, F, X, m, W, es, pos, g, h, hne, t, z, σ, Q, ok, p => by
    cases h with
    | nil => exact absurd rfl hne
  | c :: cs, n, F, X, m, W, es, pos, g, h, hne, t, z, σ, Q, ok, p => by
    cases h with
    | cons h1 h2 =>
      simp only [evAnd] at p
      cases cs with
      | nil =>
        cases h2
        refine atW (pw_and1 pt_at) ((sndT c g h1 ok (Post.bind (R := RepB) RepB.mono p)).imp fun b H1 ⟨s, b', q1, a1, d1, p1⟩ => ?_)
        subst q1
        obtain rfl : b' = b := d1
        cases b' with
        | false => exact p1.here (R := RepB) a1.ok rfl
        | true => simp only [evAnd] at p1; exact p1.here (R := RepB) a1.ok rfl
      | cons c2 cs2 =>
        have h2' := h2
        cases h2 with
        | cons h3 h4 =>
          refine atW (pw_and pt_at pw_at) ((sndT c g h1 ok (Post.bind (R := RepB) RepB.mono p)).imp fun b H1 ⟨s, b', q1, a1, d1, p1⟩ => ?_)
          subst q1
          obtain rfl : b' = b := d1
          cases b' with
          | false =>
            rw [if_neg (by decide)]
            exact p1.here (R := RepB) a1.ok rfl
          | true =>
            rw [if_pos rfl]
            exact sndAnd (c2 :: cs2) g h2' (by simp) a1.ok p1
theorem sndOr : ∀ (ts : List CT) {n : Nat} {F : Fx} {X : Cx} {m : ME} {W : WX} {es : List Expr} {pos : Pos} (g : Good nm df P n F X m W) (h : MTs nm df m ts es) (hne : es ≠ []) {t : S0} {z : Slots} {σ : L2.St} {Q : Bool → Hp → Prop} (ok : Ok F t z σ) (p : Post F z σ W t RepB Q (evOr F.T (phi P n) z ts t.h)), WAt X (.BoolOp .Or es pos) σ t.H Q
  | [], n, F, X, m, W, es, pos, g, h, hne, t, z, σ, Q, ok, p => by
    cases h with
    | nil => exact absurd rfl hne
  | c :: cs, n, F, X, m, W, es, pos, g, h, hne, t, z, σ, Q, ok, p => by
    cases h with
    | cons h1 h2 =>
      simp only [evOr] at p
      cases cs with
      | nil =>
        cases h2
        refine atW (pw_or1 pt_at) ((sndT c g h1 ok (Post.bind (R := RepB) RepB.mono p)).imp fun b H1 ⟨s, b', q1, a1, d1, p1⟩ => ?_)
        subst q1
        obtain rfl : b' = b := d1
        cases b' with
        | true => exact p1.here (R := RepB) a1.ok rfl
        | false => simp only [evOr] at p1; exact p1.here (R := RepB) a1.ok rfl
      | cons c2 cs2 =>
        have h2' := h2
        cases h2 with
        | cons h3 h4 =>
          refine atW (pw_or pt_at pw_at) ((sndT c g h1 ok (Post.bind (R := RepB) RepB.mono p)).imp fun b H1 ⟨s, b', q1, a1, d1, p1⟩ => ?_)
          subst q1
          obtain rfl : b' = b := d1
          cases b' with
          | true =>
            rw [if_pos rfl]
            exact p1.here (R := RepB) a1.ok rfl
          | false =>
            rw [if_neg (by decide)]
            exact sndOr (c2 :: cs2) g h2' (by simp) a1.ok p1
theorem sndV : ∀ (c : CT) {n : Nat} {F : Fx} {X : Cx} {m : ME} {W : WX} {e : Expr} (g : Good nm df P n F X m W) (h : MV nm df m c e) {t : S0} {z : Slots} {σ : L2.St} {Q : VK} (ok : Ok F t z σ) (p : Post F z σ W t RepV Q (evT F.T (phi P n) z c t.h)), EAt X e σ t.H Q
  | .val c, n, F, X, m, W, e, g, h, t, z, σ, Q, ok, p => by cases h
  | .bv c, n, F, X, m, W, e, g, h, t, z, σ, Q, ok, p => by
    cases h with
    | bv hc =>
      simp only [evT] at p
      refine (sndE c g hc ok (Post.hold ok RepV.mono p)).imp fun x H1 ⟨s, e1, q1, a1, d1, p1⟩ => ?_
      subst q1
      cases e1 with
      | fz u =>
        cases u with
        | bl i =>
          obtain rfl : x = .bl i := by
            have d : F.rep s (.bl i) x := d1
            unfold Fx.rep at d
            simpa only [Rep] using d
          exact p1.here (R := RepV) a1.ok rfl
        | _ => exact False.elim p1
      | own u => exact False.elim p1
      | loc i => exact False.elim p1
  | .cmp o a b, n, F, X, m, W, e, g, h, t, z, σ, Q, ok, p => by cases h
  | .chain o o' a b c, n, F, X, m, W, e, g, h, t, z, σ, Q, ok, p => by cases h
  | .not t', n, F, X, m, W, e, g, h, t, z, σ, Q, ok, p => by cases h
  | .notv c, n, F, X, m, W, e, g, h, t, z, σ, Q, ok, p => by
    cases h with
    | not hc =>
      simp only [evT] at p
      refine atE (pe_notT pe_at) ((sndE c g hc ok (Post.seenB ok RepV.mono p)).imp fun x H1 ⟨s, u, q1, a1, d1, p1⟩ => ?_)
      subst q1
      obtain ⟨b, k1, p2⟩ := p1.opt
      exact ⟨b, tru_of g.K k1 d1, p2.here (R := RepV) a1.ok rfl⟩
  | .and ts, n, F, X, m, W, e, g, h, t, z, σ, Q, ok, p => by
    cases h with
    | and ht hne =>
      simp only [evT] at p
      exact sndVA ts g ht hne ok p
  | .or ts, n, F, X, m, W, e, g, h, t, z, σ, Q, ok, p => by
    cases h with
    | or ht hne =>
      simp only [evT] at p
      exact sndVO ts g ht hne ok p
theorem sndVA : ∀ (ts : List CT) {n : Nat} {F : Fx} {X : Cx} {m : ME} {W : WX} {es : List Expr} {pos : Pos} (g : Good nm df P n F X m W) (h : MVs nm df m ts es) (hne : es ≠ []) {t : S0} {z : Slots} {σ : L2.St} {Q : VK} (ok : Ok F t z σ) (p : Post F z σ W t RepV Q (evAnd F.T (phi P n) z ts t.h)), EAt X (.BoolOp .And es pos) σ t.H Q
  | [], n, F, X, m, W, es, pos, g, h, hne, t, z, σ, Q, ok, p => by
    cases h with
    | nil => exact absurd rfl hne
  | c :: cs, n, F, X, m, W, es, pos, g, h, hne, t, z, σ, Q, ok, p => by
    cases h with
    | cons h1 h2 =>
      simp only [evAnd] at p
      cases cs with
      | nil =>
        cases h2
        refine atE (pe_one pe_at) ((sndV c g h1 ok (Post.bind (R := RepV) RepV.mono p)).imp fun b H1 ⟨s, b', q1, a1, d1, p1⟩ => ?_)
        subst q1
        obtain rfl : b = .bl b' := d1
        cases b' with
        | false => exact p1.here (R := RepV) a1.ok rfl
        | true => simp only [evAnd] at p1; exact p1.here (R := RepV) a1.ok rfl
      | cons c2 cs2 =>
        have h2' := h2
        cases h2 with
        | cons h3 h4 =>
          refine atE (pe_and pe_at pe_at) ((sndV c g h1 ok (Post.bind (R := RepV) RepV.mono p)).imp fun b H1 ⟨s, b', q1, a1, d1, p1⟩ => ?_)
          subst q1
          obtain rfl : b = .bl b' := d1
          refine ⟨b', rfl, ?_⟩
          cases b' with
          | false =>
            rw [if_neg (by decide)]
            exact p1.here (R := RepV) a1.ok rfl
          | true =>
            rw [if_pos rfl]
            exact sndVA (c2 :: cs2) g h2' (by simp) a1.ok p1
theorem sndVO : ∀ (ts : List CT) {n : Nat} {F : Fx} {X : Cx} {m : ME} {W : WX} {es : List Expr} {pos : Pos} (g : Good nm df P n F X m W) (h : MVs nm df m ts es) (hne : es ≠ []) {t : S0} {z : Slots} {σ : L2.St} {Q : VK} (ok : Ok F t z σ) (p : Post F z σ W t RepV Q (evOr F.T (phi P n) z ts t.h)), EAt X (.BoolOp .Or es pos) σ t.H Q
  | [], n, F, X, m, W, es, pos, g, h, hne, t, z, σ, Q, ok, p => by
    cases h with
    | nil => exact absurd rfl hne
  | c :: cs, n, F, X, m, W, es, pos, g, h, hne, t, z, σ, Q, ok, p => by
    cases h with
    | cons h1 h2 =>
      simp only [evOr] at p
      cases cs with
      | nil =>
        cases h2
        refine atE (pe_one pe_at) ((sndV c g h1 ok (Post.bind (R := RepV) RepV.mono p)).imp fun b H1 ⟨s, b', q1, a1, d1, p1⟩ => ?_)
        subst q1
        obtain rfl : b = .bl b' := d1
        cases b' with
        | true => exact p1.here (R := RepV) a1.ok rfl
        | false => simp only [evOr] at p1; exact p1.here (R := RepV) a1.ok rfl
      | cons c2 cs2 =>
        have h2' := h2
        cases h2 with
        | cons h3 h4 =>
          refine atE (pe_or pe_at pe_at) ((sndV c g h1 ok (Post.bind (R := RepV) RepV.mono p)).imp fun b H1 ⟨s, b', q1, a1, d1, p1⟩ => ?_)
          subst q1
          obtain rfl : b = .bl b' := d1
          refine ⟨b', rfl, ?_⟩
          cases b' with
          | true =>
            rw [if_pos rfl]
            exact p1.here (R := RepV) a1.ok rfl
          | false =>
            rw [if_neg (by decide)]
            exact sndVO (c2 :: cs2) g h2' (by simp) a1.ok p1
theorem sndS : ∀ (cs : List CE) {n : Nat} {F : Fx} {X : Cx} {m : ME} {W : WX} {es : List Expr} (g : Good nm df P n F X m W) (h : MMs nm df m cs es) {t : S0} {z : Slots} {σ : L2.St} {Q : List V → Hp → Prop} (ok : Ok F t z σ) (p : Post F z σ W t (fun _ s us vs => SeenL F s us vs) Q (evSs F.T (phi P n) z cs t.h)), AAt X es σ t.H Q
  | [], n, F, X, m, W, es, g, h, t, z, σ, Q, ok, p => by
    cases h with
    | nil =>
      simp only [evSs] at p
      exact atA pa_nil (p.here (R := fun _ s us vs => SeenL F s us vs) ok trivial)
  | c :: cs, n, F, X, m, W, es, g, h, t, z, σ, Q, ok, p => by
    cases h with
    | cons hs h1 h2 =>
      simp only [evSs] at p
      refine atA (pa_cons pe_at pa_at (star_of hs _ _)) ((sndE c g h1 ok (Post.hold ok SeenL.mono p)).imp fun x H1 ⟨s, e1, q1, a1, d1, p1⟩ => ?_)
      subst q1
      refine (sndS cs g h2 a1.ok (Post.bind (R := fun _ s us vs => SeenL F s us vs) SeenL.mono p1)).imp fun vs H2 ⟨s2, us, q2, a2, r2, p2⟩ => ?_
      subst q2
      obtain ⟨u, k1, p3⟩ := p2.opt
      exact p3.here (R := fun _ s us vs => SeenL F s us vs) a2.ok ⟨(d1.ext a1.ok.hr a2.ext).see a2.ok k1, r2⟩
theorem sndO : ∀ (c : Option CE) {n : Nat} {F : Fx} {X : Cx} {m : ME} {W : WX} {e : Option Expr} (g : Good nm df P n F X m W) (h : MO nm df m c e) {t : S0} {z : Slots} {σ : L2.St} {Q : Option Int → Hp → Prop} (ok : Ok F t z σ) (p : Post F z σ W t RepO Q (evO F.T (phi P n) z c t.h)), OAt X e σ t.H Q
  | none, n, F, X, m, W, e, g, h, t, z, σ, Q, ok, p => by
    cases h with
    | none =>
      simp only [evO] at p
      exact atO po_none (p.here (R := RepO) ok rfl)
  | some c, n, F, X, m, W, e, g, h, t, z, σ, Q, ok, p => by
    cases h with
    | some h1 =>
      simp only [evO] at p
      refine atO (po_some pe_at) ((sndE c g h1 ok (Post.hold ok RepO.mono p)).imp fun x H1 ⟨s, e1, q1, a1, d1, p1⟩ => ?_)
      subst q1
      cases e1 with
      | fz u =>
        cases u with
        | int i =>
          obtain rfl : x = .int i := by
            have d : F.rep s (.int i) x := d1
            unfold Fx.rep at d
            simpa only [Rep] using d
          exact ⟨i, rfl, p1.here (R := RepO) a1.ok rfl⟩
        | _ => exact False.elim p1
      | own u => exact False.elim p1
      | loc i => exact False.elim p1
theorem sndTs : ∀ (ts : List CT) {n : Nat} {F : Fx} {X : Cx} {m : ME} {W : WX} {es : List Expr} (g : Good nm df P n F X m W) (h : MTs nm df m ts es) (hl : ts.length ≤ 1) {t : S0} {z : Slots} {σ : L2.St} {Q : Bool → Hp → Prop} (ok : Ok F t z σ) (p : Post F z σ W t RepB Q (evTs F.T (phi P n) z ts t.h)), TsAt X es σ t.H Q
  | [], n, F, X, m, W, es, g, h, hl, t, z, σ, Q, ok, p => by
    cases h with
    | nil =>
      simp only [evTs] at p
      exact atTs pts_nil (p.here (R := RepB) ok rfl)
  | c :: cs, n, F, X, m, W, es, g, h, hl, t, z, σ, Q, ok, p => by
    cases h with
    | cons h1 h2 =>
      cases cs with
      | cons _ _ => simp at hl
      | nil =>
        cases h2
        simp only [evTs] at p
        refine atTs (pts_one pt_at) ((sndT c g h1 ok (Post.bind (R := RepB) RepB.mono p)).imp fun b H1 ⟨s, b', q1, a1, d1, p1⟩ => ?_)
        subst q1
        obtain rfl : b' = b := d1
        cases b' with
        | false => exact p1.here (R := RepB) a1.ok rfl
        | true => exact p1.here (R := RepB) a1.ok rfl
theorem sndI : ∀ (c : CI) {st : Bool} {n : Nat} {F : Fx} {X : Cx} {m m' : ME} {W : WX} {gt : Tgt} {tg e : Expr} (g : Good nm df P n F X m W) (h : MI nm df m gt c e) (hg : MG m' gt tg) {t : S0} {z : Slots} {σ : L2.St} {Q : It → Hp → Prop} (ok : Ok F t z σ) (p : Post F z σ W t (RepW F st) Q (evI F.T (phi P n) st z c t.h)), IAt X tg e σ t.H Q
  | .seq c, st, n, F, X, m, m', W, gt, tg, e, g, h, hg, t, z, σ, Q, ok, p => by
    cases h with
    | seq hsb hc =>
      simp only [evI] at p
      refine atI (pi_any pe_at) ((sndE c g hc ok (Post.hold ok RepW.mono p)).imp fun x H1 ⟨s, e1, q1, a1, d1, p1⟩ => ?_)
      subst q1
      obtain ⟨xs, hr, p2⟩ := p1.opt1
      cases hs : e1.src st z with
      | none => rw [hs] at hr; cases hr
      | some u =>
        rw [hs] at hr
        cases u with
        | lst ys =>
          cases hr
          obtain ⟨a, rfl, hw⟩ := src_lst (st := st) a1.ok d1 hs
          obtain ⟨vs, q, r⟩ := hw s Tr.refl a1.ok.hr
          exact .inl ⟨a, vs, rfl, q, fun hz => p2.here (R := RepW F st) a1.ok (by rw [← g.K]; exact walk_lst (by rw [Reps.length r]; exact hz) hw)⟩
        | tup ys =>
          cases hr
          obtain ⟨a, vs, rfl, hw⟩ := src_tup (st := st) a1.ok d1 hs
          obtain ⟨q, r⟩ := hw s Tr.refl a1.ok.hr
          exact .inr (.inl ⟨a, vs, rfl, by rw [← g.K]; exact q, fun hz => p2.here (R := RepW F st) a1.ok (by rw [← g.K]; exact walk_tup (by rw [Reps.length r]; exact hz) hw)⟩)
        | str y =>
          have hr : (if y.length ≤ line then some (y.cps.toList.map fun c => U.str ⟨#[c]⟩) else none) = some xs := hr
          split at hr
          · rename_i hl
            cases hr
            obtain rfl := src_str a1.ok d1 hs
            exact .inr (.inr ⟨y, rfl, p2.here (R := RepW F st) a1.ok (walk_str (by rw [← line_eq]; exact hl))⟩)
          · cases hr
        | _ => cases hr
  | .range es, st, n, F, X, m, m', W, gt, tg, e, g, h, hg, t, z, σ, Q, ok, p => by
    cases h with
    | range hgl hx hlen hs =>
      obtain ⟨gl, hd⟩ := gl_of g hgl
      subst hx
      simp only [evI] at p
      have hm := g.bl ("range" : Str) (by simp)
      have hcl := MMs.len hs
      have key := (sndK es g hs ok (Post.bind (R := RepK F es.length) RepW.mono p)).imp fun vs H1 ⟨s, us, q1, a1, r1, p1⟩ => show
          (es.length = 1 → ∃ j : Int, vs = [V.int j] ∧ -(2 ^ 62) ≤ j ∧ j < 2 ^ 62 ∧ Q (Itr 0 j.toNat) H1) ∧
          (es.length = 2 → ∃ i j : Int, vs = [V.int i, V.int j] ∧ (-(2 ^ 62) ≤ i ∧ i < 2 ^ 62 ∧ -(2 ^ 62) ≤ j ∧ j < 2 ^ 62) ∧ Q (Itr i (j - i).toNat) H1) ∧
          (es.length = 3 → ∃ (i j c : Int) (n : Nat), vs = [V.int i, V.int j, V.int c] ∧ RgC i j c n ∧ Q (Itc i c n) H1) by
        subst q1
        exact rng_ok a1.ok r1.1 r1.2 p1
      rename_i xs px px2
      rcases xs with _ | ⟨x1, _ | ⟨x2, _ | ⟨x3, _ | ⟨x4, xs⟩⟩⟩⟩
      · simp at hlen
      · cases hs with
        | cons s1 _ h2 =>
          refine atI (pi_range1 gl hm pa_at (by rw [star_of s1]; rfl)) (key.imp fun vs H1 k => ?_)
          exact k.1 hcl
      · cases hs with
        | cons s1 _ h2 =>
          cases h2 with
          | cons s2 _ h3 =>
            refine atI (pi_range2 gl hm pa_at (by rw [star_of s1, star_of s2]; rfl) (by rw [star_of s2]; rfl)) (key.imp fun vs H1 k => ?_)
            exact k.2.1 hcl
      · cases hs with
        | cons s1 _ h2 =>
          cases h2 with
          | cons s2 _ h3 =>
            cases h3 with
            | cons s3 _ h4 =>
              refine atI (pi_range3 gl hm pa_at (star_of s1 _ _) (by rw [star_of s2, star_of s3]; rfl)) (key.imp fun vs H1 k => ?_)
              exact k.2.2 hcl
      · simp at hlen
  | .enum c, st, n, F, X, m, m', W, gt, tg, e, g, h, hg, t, z, σ, Q, ok, p => by
    cases h with
    | enum hgl hx s1 hc =>
      cases hg with
      | tp hgs =>
        obtain ⟨gl, hd⟩ := gl_of g hgl
        subst hx
        simp only [evI] at p
        have hm := g.bl ("enumerate" : Str) (by simp)
        refine atI (pi_enumZ gl hm (pa_cons pe_at pa_nil (star_of s1 _ _)) (by rw [star_of s1]; rfl)) ((sndE c g hc ok (Post.hold ok RepW.mono p)).imp fun x H1 ⟨s, e1, q1, a1, d1, p1⟩ => ?_)
        subst q1
        obtain ⟨xs, hr, p2⟩ := p1.opt1
        cases hs : e1.src st z with
        | none => rw [hs] at hr; cases hr
        | some u =>
          rw [hs] at hr
          cases u with
          | lst ys =>
            cases hr
            obtain ⟨a, rfl, hw⟩ := src_lst (st := st) a1.ok d1 hs
            obtain ⟨vs, q, r⟩ := hw s Tr.refl a1.ok.hr
            exact ⟨a, vs, rfl, .inl q, fun hz => p2.here (R := RepW F st) a1.ok (by rw [← g.K]; exact walk_enum (by rw [Reps.length r]; exact hz) hw)⟩
          | _ => cases hr
  | .zip es, st, n, F, X, m, m', W, gt, tg, e, g, h, hg, t, z, σ, Q, ok, p => by
    cases h with
    | zip hgl hx hlen hs =>
      rename_i xs px px2
      cases hg with
      | tp hgs =>
        obtain ⟨gl, hd⟩ := gl_of g hgl
        subst hx
        simp only [evI] at p
        have hm := g.bl ("zip" : Str) (by simp)
        have key := sndEs es g hs ok (Post.bind (R := RepHs F z σ) RepW.mono p)
        rcases xs with _ | ⟨x1, _ | ⟨x2, _ | ⟨x3, xs⟩⟩⟩
        · simp at hlen
        · simp at hlen
        · cases hs with
          | cons s1 h1 h2 =>
            cases h2 with
            | cons s2 h3 h4 =>
              refine atI (pi_zipZ gl hm pa_at (star_of s1 _ _) (by rw [star_of s2]; rfl)) (key.imp fun vs H1 ⟨s, ls, q1, a1, d1, p1⟩ => ?_)
              subst q1
              obtain ⟨xs, hr, p2⟩ := p1.opt1
              rcases ls with _ | ⟨e1, _ | ⟨e2, _ | ⟨e3, ls⟩⟩⟩
              · cases hr
              · simp only [srcs] at hr
                cases h5 : e1.src st z with
                | none => rw [h5] at hr; cases hr
                | some u => rw [h5] at hr; cases u <;> cases hr
              · rcases vs with _ | ⟨v1, _ | ⟨v2, _ | ⟨v3, vs⟩⟩⟩
                · exact False.elim d1
                · exact False.elim d1.2
                · obtain ⟨d1, d2, _⟩ := d1
                  simp only [srcs] at hr
                  cases h5 : e1.src st z with
                  | none => rw [h5] at hr; cases hr
                  | some u =>
                    cases h6 : e2.src st z with
                    | none => rw [h5, h6] at hr; cases hr
                    | some w =>
                      rw [h5, h6] at hr
                      have hr : zipOf [u, w] = some xs := hr
                      unfold zipOf at hr
                      split at hr
                      · rename_i heq
                        cases heq
                        cases hr
                        obtain ⟨a, vs, rfl, hw⟩ := src_tup (st := st) a1.ok d1 h5
                        obtain ⟨b, ws, rfl, hw2⟩ := src_tup (st := st) a1.ok d2 h6
                        obtain ⟨q, r⟩ := hw s Tr.refl a1.ok.hr
                        obtain ⟨q2, r2⟩ := hw2 s Tr.refl a1.ok.hr
                        exact ⟨a, b, vs, ws, rfl, .inr ⟨by rw [← g.K]; exact q, by rw [← g.K]; exact q2, fun hz => p2.here (R := RepW F st) a1.ok (by rw [← g.K]; exact walk_zipT (by rw [Reps.length r]; exact hz) hw hw2)⟩⟩
                      · rename_i heq
                        cases heq
                        cases hr
                        obtain ⟨a, rfl, hw⟩ := src_lst (st := st) a1.ok d1 h5
                        obtain ⟨b, rfl, hw2⟩ := src_lst (st := st) a1.ok d2 h6
                        obtain ⟨vs, q, r⟩ := hw s Tr.refl a1.ok.hr
                        obtain ⟨ws, q2, r2⟩ := hw2 s Tr.refl a1.ok.hr
                        exact ⟨a, b, vs, ws, rfl, .inl ⟨.inl q, .inl q2, fun hz => p2.here (R := RepW F st) a1.ok (by rw [← g.K]; exact walk_zipL (by rw [Reps.length r]; exact hz) hw hw2)⟩⟩
                      · cases hr
                · exact False.elim d1.2.2
              · exfalso
                revert hr
                simp only [srcs]
                cases e1.src st z <;> cases e2.src st z <;> cases e3.src st z <;> cases srcs st z ls <;> intro hr <;> first | cases hr | (rename_i a b c d; revert hr; intro hr; have hr : zipOf (a :: b :: c :: d) = some xs := hr; unfold zipOf at hr; split at hr <;> first | (rename_i heq; cases heq) | cases hr)
        · simp at hlen
  | .items _, st, n, F, X, m, m', W, gt, tg, e, g, h, hg, t, z, σ, Q, ok, p => by cases h
  | .values _, st, n, F, X, m, m', W, gt, tg, e, g, h, hg, t, z, σ, Q, ok, p => by cases h
  | .rev _, st, n, F, X, m, m', W, gt, tg, e, g, h, hg, t, z, σ, Q, ok, p => by cases h
theorem sndEs : ∀ (cs : List CE) {n : Nat} {F : Fx} {X : Cx} {m : ME} {W : WX} {es : List Expr} (g : Good nm df P n F X m W) (h : MMs nm df m cs es) {t : S0} {z : Slots} {σ : L2.St} {Q : List V → Hp → Prop} (ok : Ok F t z σ) (p : Post F z σ W t (RepHs F z σ) Q (evEs F.T (phi P n) z cs t.h)), AAt X es σ t.H Q
  | [], n, F, X, m, W, es, g, h, t, z, σ, Q, ok, p => by
    cases h with
    | nil =>
      simp only [evEs] at p
      exact atA pa_nil (p.here (R := RepHs F z σ) ok trivial)
  | c :: cs, n, F, X, m, W, es, g, h, t, z, σ, Q, ok, p => by
    cases h with
    | cons hs h1 h2 =>
      simp only [evEs] at p
      refine atA (pa_cons pe_at pa_at (star_of hs _ _)) ((sndE c g h1 ok (Post.hold ok RepHs.mono p)).imp fun x H1 ⟨s, e1, q1, a1, d1, p1⟩ => ?_)
      subst q1
      refine (sndEs cs g h2 a1.ok (Post.bind (R := RepHs F z σ) RepHs.mono p1)).imp fun vs H2 ⟨s2, us, q2, a2, r2, p2⟩ => ?_
      subst q2
      exact p2.here (R := RepHs F z σ) a2.ok ⟨d1.ext a1.ok.hr a2.ext, r2⟩
end
end Mi
namespace Mi
open PySem PySem.Spec L2
/-! ### statements: what a run's end is to give -/
/-- a wish about states that stays true through all that a body does -/
structure Clo (F : Fx) (Ps : S0 → Prop) : Prop where
  ext : ∀ s s', HRel F s → Ps s → ExtS s s' → Ps s'
  wr : ∀ s a o, Ps s → s.M a → a ∉ s.io → F.H0 a = none → Ps { s with H := upd s.H a o }
  sh : ∀ s a h', Ps s → F.H0 a = none → s.h.isSome = h'.isSome → Ps { s with io := s.io ++ [a], h := h' }
  h0 : ∀ s b, Ps s → s.H b = none → F.H0 b = none
section
variable (F : Fx)
/-- what is told -/
def RepQ (s : S0) (e : E) (v : V) : Prop := match e with
  | .fz u => F.rep s u v
  | .own u => ∃ a, v = .ref a ∧ F.cont s u a ∧ s.M a ∧ ¬ F.B a ∧ a ∉ s.io ∧ F.H0 a = none
  | .loc _ => False
def PostS (W : WX) (Ps : S0 → Prop) (D : Ends) : RS → Prop
  | .next z h => ∀ s σ, s.h = h → Ps s → Ok F s z σ → D.nx σ s.H
  | .brk z h => ∀ s σ, s.h = h → Ps s → Ok F s z σ → D.bk σ s.H
  | .cont z h => ∀ s σ, s.h = h → Ps s → Ok F s z σ → D.ct σ s.H
  | .ret e h => ∀ s v, s.h = h → Ps s → HRel F s → RepQ F s e v → D.rt v s.H
  | .exc c fs z h => ∀ s d σ, s.h = h → Ps s → Ok F s z σ → XAt F s c fs d → W (.ref (F.G.cl c)) (some d) σ s.H
  | .stuck => False
end
section
variable {F : Fx} {z : Slots} {σ : L2.St} {W : WX} {t s : S0} {Ps : S0 → Prop} {D : Ends}
theorem PostS.imp {Ps' : S0 → Prop} {r : RS} (h : PostS F W Ps D r) (q : ∀ s, Ps' s → Ps s) : PostS F W Ps' D r := by
  cases r with
  | next z h' => exact fun s σ e p ok => h s σ e (q s p) ok
  | brk z h' => exact fun s σ e p ok => h s σ e (q s p) ok
  | cont z h' => exact fun s σ e p ok => h s σ e (q s p) ok
  | ret e h' => exact fun s v e' p ok r => h s v e' (q s p) ok r
  | exc c fs z h' => exact fun s d σ e p ok x => h s d σ e (q s p) ok x
  | stuck => exact h
/-- an expression, then the rest -/
theorem PostS.expr {α β : Type} {R : S0 → S0 → α → β → Prop} {r : Res α} {k : α → CH → RS} (cl : Clo F Ps) (okt : Ok F t z σ) (pt : Ps t) (h : PostS F W Ps D (r.st z k)) :
    Post F z σ W t R (fun v H1 => ∃ s a, s.H = H1 ∧ At F z σ t s ∧ Ps s ∧ R t s a v ∧ PostS F W Ps D (k a s.h)) r := by
  cases r with
  | ok a h' =>
    intro s v e x ok rv
    exact ⟨s, a, rfl, ⟨x, ok⟩, cl.ext t s okt.hr pt x, rv, by rw [e]; exact h⟩
  | exc c fs h' => exact fun s d e x ok q => h s d σ e (cl.ext t s okt.hr pt x) ok q
  | stuck => exact h
theorem PostS.opt {α : Type} {o : Option α} {k : α → CH → RS} {h : CH} (p : PostS F W Ps D ((ofOpt o h).st z k)) : ∃ a, o = some a ∧ PostS F W Ps D (k a h) := by
  cases o with
  | none => exact False.elim p
  | some a => exact ⟨a, rfl, p⟩
/-- kept -/
theorem RepE.keepS {e : E} {v : V} (cl : Clo F Ps) (okt : Ok F t z σ) (a : At F z σ t s) (pt : Ps s) (r : RepE F z σ t s e v) {k : U → CH → RS} (p : PostS F W Ps D ((e.keep s.h).st z k)) : ∃ s' u, s'.H = s.H ∧ s'.h = s.h ∧ At F z σ t s' ∧ Ps s' ∧ F.rep s' u v ∧ PostS F W Ps D (k u s'.h) := by
  obtain ⟨s', q1, q2, x, a', d⟩ := r.held okt a
  cases hk : e.keep s.h with
  | ok u h' =>
    rw [hk] at p
    have hh : h' = s'.h := by rw [q2]; cases e <;> cases hk <;> rfl
    have hk' : e.keep s'.h = .ok u h' := by rw [q2]; exact hk
    exact ⟨s', u, q1, q2, a', cl.ext s s' a.ok.hr pt x, d.keep hk', by rw [← hh]; exact p⟩
  | exc c fs h' => cases e <;> cases hk
  | stuck => rw [hk] at p; exact False.elim p
theorem Held.keepS {e : E} {v : V} (r : Held F z σ s e v) {k : U → CH → RS} (p : PostS F W Ps D ((e.keep s.h).st z k)) : ∃ u, F.rep s u v ∧ PostS F W Ps D (k u s.h) := by
  cases hk : e.keep s.h with
  | ok u h' =>
    rw [hk] at p
    have hh : h' = s.h := by cases e <;> cases hk <;> rfl
    exact ⟨u, r.keep hk, by rw [← hh]; exact p⟩
  | exc c fs h' => cases e <;> cases hk
  | stuck => rw [hk] at p; exact False.elim p
/-! ### stores -/
theorem Ok.setVal (h : Ok F s z σ) {i : Nat} {u : U} {v : V} (r : F.rep s u v) : Ok F s (z.set i (some (.val u))) (σ.set i (some v)) where
  hr := h.hr
  sr := {
    len := by rw [List.length_set, List.length_set]; exact h.sr.len
    val := fun j w e => by
      by_cases hj : j = i
      · subst hj
        have hl : j < z.length := by
          have := (List.getElem?_eq_some_iff.mp e).1
          rwa [List.length_set] at this
        rw [List.getElem?_set_self hl] at e
        cases e
        exact ⟨v, List.getElem?_set_self (by rw [← h.sr.len]; exact hl), r⟩
      · rw [List.getElem?_set_ne (Ne.symm hj)] at e
        obtain ⟨v', q, r'⟩ := h.sr.val j w e
        exact ⟨v', by rw [List.getElem?_set_ne (Ne.symm hj)]; exact q, r'⟩
    own := fun j w e => by
      by_cases hj : j = i
      · subst hj
        have hl : j < z.length := by
          have := (List.getElem?_eq_some_iff.mp e).1
          rwa [List.length_set] at this
        rw [List.getElem?_set_self hl] at e
        cases e
      · rw [List.getElem?_set_ne (Ne.symm hj)] at e
        obtain ⟨a, q, r'⟩ := h.sr.own j w e
        exact ⟨a, by rw [List.getElem?_set_ne (Ne.symm hj)]; exact q, r'⟩
    nc := fun j w e => by
      by_cases hj : j = i
      · subst hj
        have hl : j < z.length := by
          have := (List.getElem?_eq_some_iff.mp e).1
          rwa [List.length_set] at this
        rw [List.getElem?_set_self hl] at e
        cases e
      · rw [List.getElem?_set_ne (Ne.symm hj)] at e
        exact h.sr.nc j w e
    sep := fun j k w w' a e1 e2 e3 e4 => by
      have out : ∀ {j : Nat} {w : U}, (z.set i (some (.val u)))[j]? = some (some (.own w)) → j ≠ i := fun {j w} e hj => by
        subst hj
        have hl : j < z.length := by
          have := (List.getElem?_eq_some_iff.mp e).1
          rwa [List.length_set] at this
        rw [List.getElem?_set_self hl] at e
        cases e
      have hj := out e1
      have hk := out e2
      rw [List.getElem?_set_ne (Ne.symm hj)] at e1 e3
      rw [List.getElem?_set_ne (Ne.symm hk)] at e2 e4
      exact h.sr.sep j k w w' a e1 e2 e3 e4 }
theorem Ok.setOwn (h : Ok F s z σ) {i : Nat} {u : U} {a : Addr} (hc : F.cont s u a) (hM : s.M a) (hB : ¬ F.B a) (hi : a ∉ s.io) (h0 : F.H0 a = none) (hn : i ∉ F.cv) (ho : ∀ (j : Nat) w, z[j]? = some (some (.own w)) → j ≠ i → σ[j]? ≠ some (some (.ref a))) : Ok F s (z.set i (some (.own u))) (σ.set i (some (.ref a))) := by
  have at_i : ∀ {j : Nat} {x : Option Sl}, (z.set i (some (.own u)))[j]? = some x → j = i → x = some (.own u) ∧ i < z.length := fun {j x} e hj => by
    subst hj
    have hl : j < z.length := by
      have := (List.getElem?_eq_some_iff.mp e).1
      rwa [List.length_set] at this
    rw [List.getElem?_set_self hl] at e
    cases e
    exact ⟨rfl, hl⟩
  refine ⟨h.hr, ⟨by rw [List.length_set, List.length_set]; exact h.sr.len, fun j w e => ?_, fun j w e => ?_, fun j w e => ?_, fun j k w w' b e1 e2 e3 e4 => ?_⟩⟩
  · by_cases hj : j = i
    · obtain ⟨q, _⟩ := at_i e hj
      cases q
    · rw [List.getElem?_set_ne (Ne.symm hj)] at e
      obtain ⟨v', q, r'⟩ := h.sr.val j w e
      exact ⟨v', by rw [List.getElem?_set_ne (Ne.symm hj)]; exact q, r'⟩
  · by_cases hj : j = i
    · obtain ⟨q, hl⟩ := at_i e hj
      cases q
      subst hj
      exact ⟨a, List.getElem?_set_self (by rw [← h.sr.len]; exact hl), hc, hM, hB, hi, h0⟩
    · rw [List.getElem?_set_ne (Ne.symm hj)] at e
      obtain ⟨a', q, r'⟩ := h.sr.own j w e
      exact ⟨a', by rw [List.getElem?_set_ne (Ne.symm hj)]; exact q, r'⟩
  · by_cases hj : j = i
    · rw [hj]; exact hn
    · rw [List.getElem?_set_ne (Ne.symm hj)] at e
      exact h.sr.nc j w e
  · by_cases hj : j = i
    · by_cases hk : k = i
      · rw [hj, hk]
      · obtain ⟨q, hl⟩ := at_i e1 hj
        subst hj
        rw [List.getElem?_set_self (by rw [← h.sr.len]; exact hl)] at e3
        cases e3
        rw [List.getElem?_set_ne (Ne.symm hk)] at e2 e4
        exact absurd e4 (ho k w' e2 hk)
    · by_cases hk : k = i
      · obtain ⟨q, hl⟩ := at_i e2 hk
        subst hk
        rw [List.getElem?_set_self (by rw [← h.sr.len]; exact hl)] at e4
        cases e4
        rw [List.getElem?_set_ne (Ne.symm hj)] at e1 e3
        exact absurd e3 (ho j w e1 hj)
      · rw [List.getElem?_set_ne (Ne.symm hj)] at e1 e3
        rw [List.getElem?_set_ne (Ne.symm hk)] at e2 e4
        exact h.sr.sep j k w w' b e1 e2 e3 e4
/-- an own object no longer changes -/
theorem Ok.frz (h : Ok F s z σ) {i : Nat} {u : U} (e : z[i]? = some (some (.own u))) : ∃ s', s'.H = s.H ∧ s'.h = s.h ∧ ExtS s s' ∧ Ok F s' (z.set i (some (.val u))) σ := by
  obtain ⟨a, q, hc, hM, hB, hi, h0⟩ := h.sr.own i u e
  refine ⟨{ s with M := fun b => s.M b ∧ b ≠ a }, rfl, rfl, ExtS.drop, ⟨h.hr.drop hB hi, ?_⟩⟩
  have hl : i < z.length := (List.getElem?_eq_some_iff.mp e).1
  have at_i : ∀ {x : Option Sl}, (z.set i (some (.val u)))[i]? = some x → x = some (.val u) := fun {x} e => by
    rw [List.getElem?_set_self hl] at e
    cases e; rfl
  refine ⟨by rw [List.length_set]; exact h.sr.len, fun j w e' => ?_, fun j w e' => ?_, fun j w e' => ?_, fun j k w w' b e1 e2 e3 e4 => ?_⟩
  · by_cases hj : j = i
    · subst hj
      have := at_i e'
      cases this
      exact ⟨.ref a, q, hc.rep (fun m => m.2 rfl) fun b m => m.1⟩
    · rw [List.getElem?_set_ne (Ne.symm hj)] at e'
      obtain ⟨v', q', r'⟩ := h.sr.val j w e'
      exact ⟨v', q', Rep.mo (Mo.fewer fun b m => m.1) r'⟩
  · by_cases hj : j = i
    · subst hj
      have := at_i e'
      cases this
    · rw [List.getElem?_set_ne (Ne.symm hj)] at e'
      obtain ⟨a', q', c', m', b', i', f'⟩ := h.sr.own j w e'
      refine ⟨a', q', c'.mo (Mo.fewer fun b m => m.1) (fun o e => e), ⟨m', ?_⟩, b', i', f'⟩
      rintro rfl
      exact hj (h.sr.sep j i w u _ e' e q' q)
  · by_cases hj : j = i
    · subst hj
      have := at_i e'
      cases this
    · rw [List.getElem?_set_ne (Ne.symm hj)] at e'
      exact h.sr.nc j w e'
  · by_cases hj : j = i
    · subst hj
      have := at_i e1
      cases this
    · by_cases hk : k = i
      · subst hk
        have := at_i e2
        cases this
      · rw [List.getElem?_set_ne (Ne.symm hj)] at e1
        rw [List.getElem?_set_ne (Ne.symm hk)] at e2
        exact h.sr.sep j k w w' b e1 e2 e3 e4
/-- an own object becomes a cell -/
theorem Ok.share (h : Ok F s z σ) {i : Nat} {u : U} {xs : List U} (e : z[i]? = some (some (.own u))) (hh : s.h = some xs) : ∃ a, F.H0 a = none ∧ Ok F { s with io := s.io ++ [a], h := some (xs ++ [u]) } (z.set i (some (.val (.ref xs.length)))) σ := by
  obtain ⟨a, q, hc, hM, hB, hi, h0⟩ := h.sr.own i u e
  obtain ⟨hlen, hhp⟩ := h.hr.hp xs hh
  have mo : Mo s.io s.M s.H (s.io ++ [a]) s.M s.H := ⟨⟨[a], rfl⟩, fun _ _ e _ => e, fun _ m => .inl m⟩
  have hl : i < z.length := (List.getElem?_eq_some_iff.mp e).1
  have at_i : ∀ {x : Option Sl}, (z.set i (some (.val (.ref xs.length))))[i]? = some x → x = some (.val (.ref xs.length)) := fun {x} e => by
    rw [List.getElem?_set_self hl] at e
    cases e; rfl
  have last : (s.io ++ [a])[xs.length]? = some a := by rw [hlen]; simp
  refine ⟨a, h0, ⟨⟨h.hr.dom, h.hr.sub, fun b hb => ?_, ?_, fun ys e' => ?_⟩, ⟨by rw [List.length_set]; exact h.sr.len, fun j w e' => ?_, fun j w e' => ?_, fun j w e' => ?_, fun j k w w' b e1 e2 e3 e4 => ?_⟩⟩⟩
  · rcases List.mem_append.mp hb with hb | hb
    · exact h.hr.iot b hb
    · obtain rfl := List.mem_singleton.mp hb
      exact ⟨hM, hB⟩
  · refine List.nodup_append.mpr ⟨h.hr.nd, by simp, fun b hb c hc' e => ?_⟩
    obtain rfl := List.mem_singleton.mp hc'
    exact hi (e ▸ hb)
  · have e'' : some (xs ++ [u]) = some ys := e'
    cases e''
    refine ⟨by show (xs ++ [u]).length = (s.io ++ [a]).length; simp [hlen], fun n w b e1 e2 => ?_⟩
    have e2' : (s.io ++ [a])[n]? = some b := e2
    by_cases hn : n < xs.length
    · rw [List.getElem?_append_left hn] at e1
      rw [List.getElem?_append_left (by omega)] at e2'
      exact (hhp n w b e1 e2').mo mo fun o e => e
    · have hn' : n = xs.length := by
        have := (List.getElem?_eq_some_iff.mp e1).1
        simp at this
        omega
      subst hn'
      rw [last] at e2'
      cases e2'
      have : (xs ++ [u])[xs.length]? = some u := by simp
      rw [this] at e1
      cases e1
      exact hc.mo mo fun o e => e
  · by_cases hj : j = i
    · subst hj
      have := at_i e'
      cases this
      exact ⟨.ref a, q, by unfold Fx.rep; simp only [Rep]; exact ⟨a, last, rfl⟩⟩
    · rw [List.getElem?_set_ne (Ne.symm hj)] at e'
      obtain ⟨v', q', r'⟩ := h.sr.val j w e'
      exact ⟨v', q', Rep.mo mo r'⟩
  · by_cases hj : j = i
    · subst hj
      have := at_i e'
      cases this
    · rw [List.getElem?_set_ne (Ne.symm hj)] at e'
      obtain ⟨a', q', c', m', b', i', f'⟩ := h.sr.own j w e'
      refine ⟨a', q', c'.mo mo (fun o e => e), m', b', fun hm => ?_, f'⟩
      rcases List.mem_append.mp hm with hm | hm
      · exact i' hm
      · obtain rfl := List.mem_singleton.mp hm
        exact hj (h.sr.sep j i w u _ e' e q' q)
  · by_cases hj : j = i
    · subst hj
      have := at_i e'
      cases this
    · rw [List.getElem?_set_ne (Ne.symm hj)] at e'
      exact h.sr.nc j w e'
  · by_cases hj : j = i
    · subst hj
      have := at_i e1
      cases this
    · by_cases hk : k = i
      · subst hk
        have := at_i e2
        cases this
      · rw [List.getElem?_set_ne (Ne.symm hj)] at e1
        rw [List.getElem?_set_ne (Ne.symm hk)] at e2
        exact h.sr.sep j k w w' b e1 e2 e3 e4
theorem Mo.wrote {io : List Addr} {M : AP1} {H : Hp} {a : Addr} {o : HO} (hM : M a) : Mo io M H io M (upd H a o) := ⟨⟨[], by simp⟩, fun b o' e nm => by
  rw [upd_ne (by rintro rfl; exact nm hM)]; exact e, fun _ m => .inl m⟩
/-- an own object is written -/
theorem Ok.wroteOwn (h : Ok F s z σ) {i : Nat} {u u' : U} {a : Addr} {o : HO} (e : z[i]? = some (some (.own u))) (q : σ[i]? = some (some (.ref a))) (hc : F.cont { s with H := upd s.H a o } u' a) : Ok F { s with H := upd s.H a o } (z.set i (some (.own u'))) σ := by
  obtain ⟨a', q', _, hM, hB, hi, h0⟩ := h.sr.own i u e
  rw [q] at q'; cases q'
  have hl : i < z.length := (List.getElem?_eq_some_iff.mp e).1
  have hls : i < σ.length := by rw [← h.sr.len]; exact hl
  -- the slot stands empty for a while
  have emp : Ok F s (z.set i none) σ := by
    have at_i : ∀ {x : Option Sl}, (z.set i none)[i]? = some x → x = none := fun {x} e => by
      rw [List.getElem?_set_self hl] at e
      cases e; rfl
    have out : ∀ {j : Nat} {x : Sl}, (z.set i none)[j]? = some (some x) → j ≠ i ∧ z[j]? = some (some x) := fun {j x} e => by
      have hj : j ≠ i := by
        rintro rfl
        have := at_i e
        cases this
      rw [List.getElem?_set_ne (Ne.symm hj)] at e
      exact ⟨hj, e⟩
    exact ⟨h.hr, ⟨by rw [List.length_set]; exact h.sr.len, fun j w e' => h.sr.val j w (out e').2, fun j w e' => h.sr.own j w (out e').2, fun j w e' => h.sr.nc j w (out e').2, fun j k w w' b e1 e2 e3 e4 => h.sr.sep j k w w' b (out e1).2 (out e2).2 e3 e4⟩⟩
  have w := emp.wrote (D := a) (o := o) hM hi fun j w e' => by
    have hj : j ≠ i := by
      rintro rfl
      rw [List.getElem?_set_self hl] at e'
      cases e'
    rw [List.getElem?_set_ne (Ne.symm hj)] at e'
    intro q2
    exact hj (h.sr.sep j i w u a e' e q2 q)
  have w2 := w.setOwn (i := i) (u := u') (a := a) hc hM hB hi h0 (h.sr.nc i u e) fun j w e' hj => by
    rw [List.getElem?_set_ne (Ne.symm hj)] at e'
    intro q2
    exact hj (h.sr.sep j i w u a e' e q2 q)
  rw [List.set_set] at w2
  have : σ.set i (some (.ref a)) = σ := by
    apply List.ext_getElem?
    intro j
    by_cases hj : j = i
    · subst hj; rw [List.getElem?_set_self hls, q]
    · rw [List.getElem?_set_ne (Ne.symm hj)]
  rw [this] at w2
  exact w2
/-- a cell is written -/
theorem Ok.wroteCell (h : Ok F s z σ) {n : Nat} {xs : List U} {u' : U} {a : Addr} {o : HO} (hh : s.h = some xs) (q : s.io[n]? = some a) (hc : F.cont { s with H := upd s.H a o } u' a) :
    Ok F { s with H := upd s.H a o, h := some (xs.set n u') } z σ ∧ ExtS s { s with H := upd s.H a o, h := some (xs.set n u') } := by
  have ha : a ∈ s.io := List.mem_of_getElem? q
  obtain ⟨hM, hB⟩ := h.hr.iot a ha
  obtain ⟨hlen, hhp⟩ := h.hr.hp xs hh
  have mo : Mo s.io s.M s.H s.io s.M (upd s.H a o) := Mo.wrote hM
  have ne : ∀ b o', s.H b = some o' → b ≠ a → upd s.H a o b = some o' := fun b o' e nb => by rw [upd_ne nb]; exact e
  refine ⟨⟨⟨fun b m => ?_, h.hr.sub, h.hr.iot, h.hr.nd, fun ys e => ?_⟩, ⟨h.sr.len, fun i u e => ?_, fun i u e => ?_, h.sr.nc, h.sr.sep⟩⟩, ⟨⟨[], by simp, by simp⟩, fun b o' e nw => ?_, fun b m => .inl m, by rw [hh]; rfl, fun b o' e => ?_⟩⟩
  · by_cases hb : b = a
    · subst hb; exact ⟨o, upd_same⟩
    · obtain ⟨o', e⟩ := h.hr.dom b m
      exact ⟨o', ne b o' e hb⟩
  · have e' : some (xs.set n u') = some ys := e
    cases e'
    refine ⟨by rw [List.length_set]; exact hlen, fun m w b e1 e2 => ?_⟩
    by_cases hm : m = n
    · subst hm
      have hl : m < xs.length := by
        have := (List.getElem?_eq_some_iff.mp e1).1
        rwa [List.length_set] at this
      rw [List.getElem?_set_self hl] at e1
      cases e1
      have e2' : s.io[m]? = some b := e2
      rw [q] at e2'; cases e2'
      exact hc
    · rw [List.getElem?_set_ne (Ne.symm hm)] at e1
      refine (hhp m w b e1 e2).mo mo fun o' e3 => ne b o' e3 ?_
      rintro rfl
      have l1 := (List.getElem?_eq_some_iff.mp q).1
      have l2 := (List.getElem?_eq_some_iff.mp e2).1
      exact hm ((List.getElem?_inj l2 h.hr.nd).mp (e2.trans q.symm))
  · obtain ⟨v, q, r⟩ := h.sr.val i u e
    exact ⟨v, q, Rep.mo mo r⟩
  · obtain ⟨b, q, c, m, b', n', f⟩ := h.sr.own i u e
    exact ⟨b, q, c.mo mo (fun o' e3 => ne b o' e3 (by rintro rfl; exact n' ha)), m, b', n', f⟩
  · show upd s.H a o b = some o'
    rw [upd_ne (by rintro rfl; refine nw ?_; rw [hh]; exact ha)]; exact e
  · by_cases hb : b = a
    · subst hb; exact ⟨o, upd_same⟩
    · exact ⟨o', ne b o' e hb⟩
/-- what stands at a place is changed -/
theorem chg_ok {e : E} {v : V} {f : U → Option U} (ok : Ok F s z σ) (ps : Ps s) (d : Held F z σ s e v) (cl : Clo F Ps) (p : PostS F W Ps D (chg z s.h e f fun z h => .next z h)) :
    ∃ a u0 u1, v = .ref a ∧ F.cont s u0 a ∧ f u0 = some u1 ∧ s.M a ∧ ∀ o, F.cont { s with H := upd s.H a o } u1 a → D.nx σ (upd s.H a o) := by
  unfold chg at p
  split at p
  · rename_i i
    split at p
    · rename_i u hz
      split at p
      · rename_i u' hf
        obtain ⟨a, q, hc, hM, hB, hi, h0⟩ := ok.sr.own i u hz
        obtain ⟨e1, _⟩ := d
        rw [q] at e1
        cases e1
        exact ⟨a, u, u', rfl, hc, hf, hM, fun o c => p { s with H := upd s.H a o } σ rfl (cl.wr s a o ps hM hi h0) (ok.wroteOwn hz q c)⟩
      · exact False.elim p
    · exact False.elim p
  · rename_i n
    split at p
    · rename_i xs hh
      split at p
      · rename_i u hx
        split at p
        · rename_i u' hf
          obtain ⟨a, e1, rfl⟩ : F.rep s (.ref n) v := by
            have d' : F.rep s (.ref n) v := d
            exact d'
          have hc := (ok.hr.hp xs hh).2 n u a hx e1
          refine ⟨a, u, u', rfl, hc, hf, (ok.hr.iot a (List.mem_of_getElem? e1)).1, fun o c => ?_⟩
          obtain ⟨o1, o2⟩ := ok.wroteCell hh e1 c
          exact p { s with H := upd s.H a o, h := some (xs.set n u') } σ rfl (cl.ext _ _ ok.hr ps o2) o1
        · exact False.elim p
      · exact False.elim p
    · exact False.elim p
  · exact False.elim p
end
end Mi
namespace Mi
open PySem PySem.Spec L2
variable {nm : Nm → Str} {df : Fk → Bool} {P : Prog}
theorem Mo.trans {io io1 io2 : List Addr} {M M1 M2 : AP1} {H H1 H2 : Hp} (x : Mo io M H io1 M1 H1) (y : Mo io1 M1 H1 io2 M2 H2) : Mo io M H io2 M2 H2 where
  pre := by
    obtain ⟨a, e⟩ := x.pre
    obtain ⟨b, f⟩ := y.pre
    exact ⟨a ++ b, by rw [f, e, List.append_assoc]⟩
  keep := fun b o e nm => y.keep b o (x.keep b o e nm) fun m => by
    rcases x.mx b m with q | q
    · exact nm q
    · rw [e] at q; cases q
  mx := fun b m => by
    rcases y.mx b m with q | q
    · exact x.mx b q
    · by_cases hm : M b
      · exact .inl hm
      · cases e : H b with
        | none => exact .inr rfl
        | some o =>
          have := x.keep b o e hm
          rw [q] at this; cases this
/-- an expression, what is seen of it, then the rest -/
theorem PostS.seenS {F : Fx} {z : Slots} {σ : L2.St} {W : WX} {t : S0} {Ps : S0 → Prop} {D : Ends} {r : Res E} {k : U → CH → RS} (cl : Clo F Ps) (okt : Ok F t z σ) (pt : Ps t) (h : PostS F W Ps D ((seen z r).st z k)) :
    Post F z σ W t (RepE F z σ) (fun v H1 => ∃ s u, s.H = H1 ∧ At F z σ t s ∧ Ps s ∧ Seen F s u v ∧ PostS F W Ps D (k u s.h)) r := by
  have h' : PostS F W Ps D (r.st z fun e h => (ofOpt (e.see z h) h).st z k) := by
    unfold seen at h
    cases r with
    | ok e h1 => exact h
    | exc c fs h1 => exact h
    | stuck => exact h
  refine (PostS.expr cl okt pt h').imp fun v H1 ⟨s, e, e1, a, p, r, q⟩ => ?_
  obtain ⟨s', e2, e3, x, a', d⟩ := r.held okt a
  rw [← e3] at q
  obtain ⟨u, k1, q'⟩ := q.opt
  exact ⟨s', u, e2.trans e1, a', cl.ext _ _ a.ok.hr p x, d.see a'.ok k1, q'⟩
def SAt (X : Cx) (st : Stmt) : TS := fun D σ H => ∀ pins s, Inv X pins σ H s → wpAny (model X.prog X.w) X.A (exec st X.env) (SP X pins D) X.xe s
theorem ps_at {X : Cx} {st : Stmt} : PS X st (SAt X st) := ⟨fun pins s _ _ _ I h => h pins s I⟩
theorem atS {X : Cx} {st : Stmt} {t : TS} (p : PS X st t) {σ : L2.St} {H : Hp} {D : Ends} (h : t D σ H) : SAt X st D σ H := fun pins s I => p.run pins s σ H D I h
def SsAt (X : Cx) (st : List Stmt) : TS := fun D σ H => ∀ pins s, Inv X pins σ H s → wpAny (model X.prog X.w) X.A (execs st X.env) (SP X pins D) X.xe s
theorem pss_at {X : Cx} {st : List Stmt} : PSs X st (SsAt X st) := ⟨fun pins s _ _ _ I h => h pins s I⟩
theorem atSs {X : Cx} {st : List Stmt} {t : TS} (p : PSs X st t) {σ : L2.St} {H : Hp} {D : Ends} (h : t D σ H) : SsAt X st D σ H := fun pins s I => p.run pins s σ H D I h
theorem loc_of {n : Nat} {F : Fx} {X : Cx} {m : ME} {W : WX} (g : Good nm df P n F X m W) {i : Nat} {x : Str} (h : locB m i x = true) : X.N[i]? = some x ∧ Loc X.env.scope x ∧ (X.fn x = true ∨ X.env.scope.names.lookup x = some .local) := by
  unfold locB kd at h
  simp only [Bool.and_eq_true, Bool.or_eq_true, decide_eq_true_eq] at h
  obtain ⟨h1, h2⟩ := h
  rw [g.hN, g.sc, g.fn]
  rcases h2 with h2 | ⟨h2, h3⟩
  · exact ⟨h1, .inl h2, .inr h2⟩
  · exact ⟨h1, .inr h2, .inl h3⟩
theorem sw_of {e : Expr} (h : compB e = false) (tg : Option Expr) (l : Nat) (env : Env) : swapsWith e tg l env = pure false := by
  cases e <;> first | rfl | (simp [compB] at h)
/-- a turn of a loop, by what comes behind it -/
theorem PostS.turn {F : Fx} {W : WX} {Ps : S0 → Prop} {D : Ends} {N : L2.St → Hp → Prop} {r : RS} {K : Slots → CH → RS}
    (hn : ∀ s z σ, Ps s → Ok F s z σ → PostS F W Ps D (K z s.h) → N σ s.H)
    (h : PostS F W Ps D (match r with
      | .next z h => K z h
      | .cont z h => K z h
      | .brk z h => .next z h
      | .ret e h => .ret e h
      | .exc c fs z h => .exc c fs z h
      | .stuck => .stuck)) : PostS F W Ps { D with nx := N, ct := N, bk := D.nx } r := by
  cases r with
  | next z h' => exact fun s σ e p ok => hn s z σ p ok (by rw [e]; exact h)
  | cont z h' => exact fun s σ e p ok => hn s z σ p ok (by rw [e]; exact h)
  | brk z h' => exact h
  | ret e h' => exact h
  | exc c fs z h' => exact h
  | stuck => exact h
theorem PostS.seq {F : Fx} {W : WX} {Ps : S0 → Prop} {D : Ends} {N : L2.St → Hp → Prop} {r : RS} {K : Slots → CH → RS}
    (hn : ∀ s z σ, Ps s → Ok F s z σ → PostS F W Ps D (K z s.h) → N σ s.H)
    (h : PostS F W Ps D (match r with
      | .next z h => K z h
      | x => x)) : PostS F W Ps { D with nx := N } r := by
  cases r with
  | next z h' => exact fun s σ e p ok => hn s z σ p ok (by rw [e]; exact h)
  | cont z h' => exact h
  | brk z h' => exact h
  | ret e h' => exact h
  | exc c fs z h' => exact h
  | stuck => exact h
theorem Clo.tr {F : Fx} {Ps : S0 → Prop} (cl : Clo F Ps) (s0 : S0) : Clo F (fun s => Ps s ∧ Tr true s0 s) where
  ext := fun s s' hr p x => ⟨cl.ext s s' hr p.1 x, Mo.trans p.2 (x.mo hr)⟩
  wr := fun s a o p hM hi h0 => by
    refine ⟨cl.wr s a o p.1 hM hi h0, ?_⟩
    obtain ⟨x, k, mx⟩ : Mo s0.io s0.M s0.H s.io s.M s.H := p.2
    refine (⟨x, fun b o' e nm => ?_, mx⟩ : Mo s0.io s0.M s0.H s.io s.M (upd s.H a o))
    have e' := k b o' e nm
    rw [upd_ne]
    · exact e'
    · rintro rfl
      rcases mx b hM with q | q
      · exact nm q
      · rw [e] at q; cases q
  sh := fun s a h' p h0 on => by
    refine ⟨cl.sh s a h' p.1 h0 on, ?_⟩
    obtain ⟨⟨x, ex⟩, k, mx⟩ : Mo s0.io s0.M s0.H s.io s.M s.H := p.2
    exact (⟨⟨x ++ [a], by show s.io ++ [a] = _; rw [ex, List.append_assoc]⟩, k, mx⟩ : Mo s0.io s0.M s0.H (s.io ++ [a]) s.M s.H)
  h0 := fun s b p => cl.h0 s b p.1
/-- a name is set -/
theorem set_ok {F : Fx} {W : WX} {Ps : S0 → Prop} {D : Ends} {t : S0} {z : Slots} {σ : L2.St} {r : Res E} {i : Nat} {T : TE} (cl : Clo F Ps) (ok : Ok F t z σ) (pt : Ps t)
    (p : PostS F W Ps D (r.st z fun r h => (r.keep h).st z fun u h => setS i (some (.val u)) z fun σ => .next σ h))
    (ih : Post F z σ W t (RepE F z σ) (fun x H1 => gName i x σ H1 D.nx) r → T σ t.H fun x H1 => gName i x σ H1 D.nx) : tAsg T (gName i) D σ t.H := by
  refine ih ((PostS.expr cl ok pt p).imp fun v H1 ⟨s, e1, q1, a1, p1, r1, k1⟩ => ?_)
  subst q1
  obtain ⟨s2, u, q2, q3, a2, p2, r2, k2⟩ := RepE.keepS cl ok a1 p1 r1 k1
  unfold setS at k2
  split at k2
  · show D.nx _ s.H
    rw [← q2]
    exact k2 s2 _ rfl p2 (a2.ok.setVal r2)
  · exact False.elim k2
theorem own_ok {F : Fx} {W : WX} {Ps : S0 → Prop} {D : Ends} {t : S0} {z : Slots} {σ : L2.St} {r : Res E} {i : Nat} {T : TE} (cl : Clo F Ps) (ok : Ok F t z σ) (pt : Ps t) (hn : i ∉ F.cv)
    (p : PostS F W Ps D (r.st z fun r h => (match r with
      | .own u => setS i (some (.own u)) z fun σ => .next σ h
      | _ => .stuck)))
    (ih : Post F z σ W t (RepE F z σ) (fun x H1 => gName i x σ H1 D.nx) r → T σ t.H fun x H1 => gName i x σ H1 D.nx) : tAsg T (gName i) D σ t.H := by
  refine ih ((PostS.expr cl ok pt p).imp fun v H1 ⟨s, e1, q1, a1, p1, r1, k1⟩ => ?_)
  subst q1
  cases e1 with
  | fz u => exact False.elim k1
  | loc u => exact False.elim k1
  | own u =>
    obtain ⟨a, rfl, c, m, b, io, nn⟩ := r1
    simp only at k1
    unfold setS at k1
    split at k1
    · exact k1 s _ rfl p1 (a1.ok.setOwn c m b io (cl.h0 t a pt nn) hn fun j w e _ => ok.own_ne nn j w e)
    · exact False.elim k1
mutual
theorem sndSt : ∀ (c : CS) {n : Nat} {F : Fx} {X : Cx} {m : ME} {W : WX} {st : Stmt} (g : Good nm df P n F X m W) (hp : PassesOwn (model X.prog X.w) X.A X.env X.xe) (hk : X.env.scope.kind = .function) (h : MS nm df m c st) {t : S0} {z : Slots} {σ : L2.St} {Ps : S0 → Prop} {D : Ends} (cl : Clo F Ps) (ok : Ok F t z σ) (pt : Ps t) (p : PostS F W Ps D (ev1 F.T (phi P n) c z t.h)), SAt X st D σ t.H
  | .expr c, n, F, X, m, W, st, g, hp, hk, h, t, z, σ, Ps, D, cl, ok, pt, p => by
    cases h with
    | expr hc he =>
      simp only [ev1] at p
      refine atS (ps_expr pe_at (sw_of hc _ _ _)) (sndE c g he ok ((PostS.expr cl ok pt p).imp fun v H1 ⟨s, e1, q1, a1, p1, r1, k1⟩ => ?_))
      subst q1
      exact k1 s σ rfl p1 a1.ok
  | .set i c, n, F, X, m, W, st, g, hp, hk, h, t, z, σ, Ps, D, cl, ok, pt, p => by
    cases h with
    | set hl hc he =>
      obtain ⟨l1, l2, l3⟩ := loc_of g hl
      simp only [ev1] at p
      exact atS (ps_set (by rw [g.hN]; exact g.nd) l1 l2 pe_at (sw_of hc _ _ _) l3) (set_ok cl ok pt p fun q => sndE c g he ok q)
    | setC hl hsw he =>
      rename_i x px p' gt it cs c' tg elt iter ifs scope pc
      obtain ⟨l1, l2, l3⟩ := loc_of g hl
      unfold swB kd at hsw
      simp only [Bool.and_eq_true, decide_eq_true_eq, Bool.not_eq_true'] at hsw
      obtain ⟨⟨w1, w2⟩, w3⟩ := hsw
      rw [← g.sc] at w1
      simp only [ev1] at p
      cases he with
      | comp hb hcv hsb hg hi hcs hc1 he =>
        exact atS (ps_setLc g.calm (by rw [g.hN]; exact g.nd) l1 w1 (sw_true hk w1 w2 w3) pi_at (blkOk_by (by rw [g.hN, g.sc]; exact hb)) (fun s H C cl fp => by
          have G := g.blk 0 scope s H C cl fp
          exact pgOf G.hN G.sc G.fn G.nd G.calm gt hg) (fun s H C cl fp => ⟨fun pins s' σ' H' Q' I hq => hq s H C cl fp pins s' I⟩) (fun s H C cl fp => ⟨fun pins s' σ' H' Q' I hq => hq s H C cl fp pins s' I⟩) (set_of hsb _))
          (set_ok cl ok pt p fun q => compOk g ok hcv (fun Q p => sndI it g hi hg ok p) (fun D s0 H0 C cl fp _ _ _ _ ok p => sndTs cs (g.blk D scope s0 H0 C cl fp) hcs hc1 ok p) (fun D s0 H0 C cl fp _ _ _ _ ok p => sndE c' (g.blk D scope s0 H0 C cl fp) he ok p) q)
  | .own i c, n, F, X, m, W, st, g, hp, hk, h, t, z, σ, Ps, D, cl, ok, pt, p => by
    cases h with
    | own hl hcv0 hc he =>
      obtain ⟨l1, l2, l3⟩ := loc_of g hl
      simp only [ev1] at p
      exact atS (ps_set (by rw [g.hN]; exact g.nd) l1 l2 pe_at (sw_of hc _ _ _) l3) (own_ok cl ok pt (by rw [g.cv]; simpa using hcv0) p fun q => sndE c g he ok q)
    | ownC hl hcv0 hsw he =>
      rename_i x px p' gt it cs c' tg elt iter ifs scope pc
      obtain ⟨l1, l2, l3⟩ := loc_of g hl
      unfold swB kd at hsw
      simp only [Bool.and_eq_true, decide_eq_true_eq, Bool.not_eq_true'] at hsw
      obtain ⟨⟨w1, w2⟩, w3⟩ := hsw
      rw [← g.sc] at w1
      simp only [ev1] at p
      cases he with
      | comp hb hcv hsb hg hi hcs hc1 he =>
        exact atS (ps_setLc g.calm (by rw [g.hN]; exact g.nd) l1 w1 (sw_true hk w1 w2 w3) pi_at (blkOk_by (by rw [g.hN, g.sc]; exact hb)) (fun s H C cl fp => by
          have G := g.blk 0 scope s H C cl fp
          exact pgOf G.hN G.sc G.fn G.nd G.calm gt hg) (fun s H C cl fp => ⟨fun pins s' σ' H' Q' I hq => hq s H C cl fp pins s' I⟩) (fun s H C cl fp => ⟨fun pins s' σ' H' Q' I hq => hq s H C cl fp pins s' I⟩) (set_of hsb _))
          (own_ok cl ok pt (by rw [g.cv]; simpa using hcv0) p fun q => compOk g ok hcv (fun Q p => sndI it g hi hg ok p) (fun D s0 H0 C cl fp _ _ _ _ ok p => sndTs cs (g.blk D scope s0 H0 C cl fp) hcs hc1 ok p) (fun D s0 H0 C cl fp _ _ _ _ ok p => sndE c' (g.blk D scope s0 H0 C cl fp) he ok p) q)
  | .put gt c, n, F, X, m, W, st, g, hp, hk, h, t, z, σ, Ps, D, cl, ok, pt, p => by
    cases h with
    | put hg ht he =>
      rename_i ts es k p2 e p'
      simp only [ev1] at p
      refine atS (ps_asg pe_at (pgOf g.hN g.sc g.fn g.nd g.calm (.tp ts) hg) (by cases e <;> rfl) (by cases e <;> first | rfl | (simp [tupB] at ht)) rfl) ?_
      refine sndE c g he ok ((PostS.expr cl ok pt p).imp fun v H1 ⟨s, e1, q1, a1, p1, r1, k1⟩ => ?_)
      subst q1
      obtain ⟨s2, u, q2, q3, a2, pp2, r2, k2⟩ := RepE.keepS cl ok a1 p1 r1 k1
      cases hb : bindT (.tp ts) u z with
      | none => rw [hb] at k2; exact False.elim k2
      | some z1 =>
        rw [hb] at k2
        rw [← g.K, ← q2]
        exact gOf_ok (.tp ts) r2 hb a2.ok.sr.len fun σ1 b1 => k2 s2 σ1 rfl pp2 (b1.ok a2.ok)
  | .attr _ _ _, n, F, X, m, W, st, g, hp, hk, h, t, z, σ, Ps, D, cl, ok, pt, p => by cases h
  | .ix o i c, n, F, X, m, W, st, g, hp, hk, h, t, z, σ, Ps, D, cl, ok, pt, p => by
    cases h with
    | ix hpl ho hi hc he =>
      rename_i x y e p2 p'
      simp only [ev1] at p
      refine atS (ps_asg pe_at (pg_sub pe_at pe_at set_list (fun v => by cases y <;> first | rfl | (simp [plainB] at hpl))) (by cases e <;> first | rfl | (simp [compB] at hc)) (by cases e <;> rfl) rfl) ?_
      refine sndE c g he ok ((PostS.expr cl ok pt p).imp fun v H1 ⟨s, e1, q1, a1, p1, r1, k1⟩ => ?_)
      subst q1
      obtain ⟨s2, u, q2, q3, a2, pp2, r2, k2⟩ := RepE.keepS cl ok a1 p1 r1 k1
      rw [← q2]
      refine sndE o g ho a2.ok ((PostS.expr (R := RepE F z σ) cl a2.ok pp2 k2).imp fun xo H2 ⟨s3, e3, q4, a3, p3, r3, k3⟩ => ?_)
      subst q4
      obtain ⟨s3', e4, e5, x3, a3', d3⟩ := r3.held a2.ok a3
      have p3' := cl.ext _ _ a3.ok.hr p3 x3
      rw [← e4]
      rw [← e5] at k3
      refine sndE i g hi a3'.ok ((PostS.expr (R := RepE F z σ) cl a3'.ok p3' k3).imp fun xi H3 ⟨s4, e6, q5, a4, p4, r4, k4⟩ => ?_)
      subst q5
      obtain ⟨s5, w, q6, q7, a5, p5, r5, k5⟩ := RepE.keepS cl a3'.ok a4 p4 r4 k4
      have d5 := (d3.ext a3'.ok.hr a5.ext)
      have ru : F.rep s5 u v := (ExtS.trans a3'.ext a5.ext).rep a2.ok.hr r2
      rw [← q6]
      obtain ⟨a, u0, u1, rfl, hc, hs, hM, fin⟩ := chg_ok a5.ok p5 d5 cl k5
      cases u0 with
      | lst xs =>
        obtain ⟨vs, hH, rs⟩ : ∃ vs, s5.H a = some (.lst vs) ∧ F.reps s5 xs vs := hc
        cases w with
        | int i0 =>
          obtain rfl : xi = .int i0 := r5
          have hs : (ixN xs.length i0).map (fun k => U.lst (xs.set k u)) = some u1 := hs
          cases hj : ixN xs.length i0 with
          | none => rw [hj] at hs; cases hs
          | some j =>
            rw [hj] at hs
            cases hs
            refine ⟨a, vs, i0, j, rfl, rfl, hH, by rw [← Reps.length rs]; exact hj, fin _ ?_⟩
            exact ⟨_, upd_same, Reps.mo (Mo.wrote hM) (Reps.set ru j rs)⟩
        | _ => cases hs
      | obj _ _ => cases hs
      | dct _ => cases hs
      | _ => exact False.elim hc
  | .aug i q c, n, F, X, m, W, st, g, hp, hk, h, t, z, σ, Ps, D, cl, ok, pt, p => by
    cases h with
    | aug hl hq he =>
      obtain ⟨l1, l2, l3⟩ := loc_of g hl
      simp only [ev1] at p
      split at p
      · rename_i x hu
        obtain ⟨v, e1, r⟩ := ok.sr.val i _ hu
        obtain rfl : v = .int x := r
        have key := (sndE c g he ok (PostS.seenS cl ok pt p)).imp fun y H1 ⟨s, w, q1, a1, p1, d1, k1⟩ => show (∃ b : Int, y = V.int b ∧ ∀ c, augI q x (.int b) = some c → D.nx (σ.set i (some (V.int c))) H1) by
          subst q1
          obtain ⟨cc, hc, k2⟩ := k1.opt
          obtain ⟨b, rfl⟩ : ∃ b, w = .int b := by
            unfold augI at hc
            split at hc <;> first | exact ⟨_, rfl⟩ | cases hc
          obtain rfl : y = .int b := d1.int
          refine ⟨b, rfl, fun c2 hc2 => ?_⟩
          rw [hc] at hc2; cases hc2
          unfold setS at k2
          split at k2
          · exact k2 s _ rfl p1 (a1.ok.setVal (by unfold Fx.rep; simp only [Rep]))
          · exact False.elim k2
        rcases hq with ⟨rfl, rfl⟩ | ⟨rfl, rfl⟩
        · exact atS (ps_aug (by rw [g.hN]; exact g.nd) l1 l2 pe_at ip_add l3) ⟨_, e1, key.imp fun y H1 ⟨b, e, k⟩ => ⟨x, b, rfl, e, k _ rfl⟩⟩
        · exact atS (ps_aug (by rw [g.hN]; exact g.nd) l1 l2 pe_at ip_sub l3) ⟨_, e1, key.imp fun y H1 ⟨b, e, k⟩ => ⟨x, b, rfl, e, k _ rfl⟩⟩
      · exact False.elim p
  | .augix _ _ _ _, n, F, X, m, W, st, g, hp, hk, h, t, z, σ, Ps, D, cl, ok, pt, p => by cases h
  | .augattr _ _ _ _, n, F, X, m, W, st, g, hp, hk, h, t, z, σ, Ps, D, cl, ok, pt, p => by cases h
  | .ret c, n, F, X, m, W, st, g, hp, hk, h, t, z, σ, Ps, D, cl, ok, pt, p => by
    cases h with
    | ret he =>
      simp only [ev1] at p
      refine atS (ps_ret pe_at) (sndE c g he ok ((PostS.expr cl ok pt p).imp fun v H1 ⟨s, e1, q1, a1, p1, r1, k1⟩ => ?_))
      subst q1
      cases e1 with
      | fz u => exact k1 s v rfl p1 a1.ok.hr r1
      | own u =>
        obtain ⟨a, rfl, c, m, b, io, nn⟩ := r1
        exact k1 s _ rfl p1 a1.ok.hr ⟨a, rfl, c, m, b, io, cl.h0 t a pt nn⟩
      | loc i => exact False.elim k1
  | .retv i, n, F, X, m, W, st, g, hp, hk, h, t, z, σ, Ps, D, cl, ok, pt, p => by
    cases h with
    | retv hv =>
      obtain ⟨h1, h2, h3, h4⟩ := vis_of g hv
      simp only [ev1] at p
      split at p
      · rename_i u hu
        obtain ⟨a, e1, c, m, b, io, nn⟩ := ok.sr.own i u hu
        exact atS (ps_ret (pe_var h1 h2 h3 h4)) ⟨_, e1, p t _ rfl pt ok.hr ⟨a, rfl, c, m, b, io, nn⟩⟩
      · rename_i u hu
        obtain ⟨v, e1, r⟩ := ok.sr.val i u hu
        exact atS (ps_ret (pe_var h1 h2 h3 h4)) ⟨v, e1, p t _ rfl pt ok.hr r⟩
      · exact False.elim p
  | .ret0, n, F, X, m, W, st, g, hp, hk, h, t, z, σ, Ps, D, cl, ok, pt, p => by
    cases h with
    | ret0 =>
      simp only [ev1] at p
      exact atS ps_retN (p t _ rfl pt ok.hr (by unfold RepQ Fx.rep; simp only [Rep]))
  | .ite c a b, n, F, X, m, W, st, g, hp, hk, h, t, z, σ, Ps, D, cl, ok, pt, p => by
    cases h with
    | ite hc ha hb =>
      simp only [ev1] at p
      refine atS (ps_if pt_at pss_at pss_at) (sndT c g hc ok ((PostS.expr (R := RepB) cl ok pt p).imp fun d H1 ⟨s, d', q1, a1, p1, r1, k1⟩ => ?_))
      subst q1
      obtain rfl : d' = d := r1
      cases d' with
      | true => rw [if_pos rfl]; exact sndB a g hp hk ha cl a1.ok p1 k1
      | false => rw [if_neg (by decide)]; exact sndB b g hp hk hb cl a1.ok p1 k1
  | .for_ gt it b, n, F, X, m, W, st, g, hp, hk, h, t, z, σ, Ps, D, cl, ok, pt, p => by
    cases h with
    | for_ hsb hg hi hb =>
      simp only [ev1] at p
      refine atS (ps_for hp g.calm pi_at (pgOf g.hN g.sc g.fn g.nd g.calm gt hg) pss_at (set_of hsb _)) ?_
      refine sndI it g hi hg ok ((PostS.expr (R := RepW F true) cl ok pt p).imp fun J H1 ⟨s, xs, q1, a1, p1, w, k1⟩ => ?_)
      subst q1
      have hw : WalkAt F true s xs J := w
      have cl' := cl.tr s
      refine ⟨fun i mm σ H => ∃ (s2 : S0) (z2 : Slots), mm = xs.length - i ∧ i ≤ xs.length ∧ s2.H = H ∧ Ok F s2 z2 σ ∧ (Ps s2 ∧ Tr true s s2) ∧ PostS F W (fun s2 => Ps s2 ∧ Tr true s s2) D (goFor gt (fun σ h => evB F.T (phi P n) b σ h) (xs.drop i) z2 s2.h),
        ⟨xs.length, s, z, by simp, Nat.zero_le _, rfl, a1.ok, ⟨p1, Mo.refl⟩, by rw [List.drop_zero]; exact k1.imp fun _ q => q.1⟩, ?_⟩
      rintro i mm σ2 H ⟨s2, z2, rfl, hle, rfl, ok2, pp, k2⟩
      by_cases hlt : i < xs.length
      · obtain ⟨x, hx⟩ : ∃ x, xs[i]? = some x := ⟨xs[i], by simp [hlt]⟩
        have hdrop : xs.drop i = x :: xs.drop (i + 1) := by
          rw [List.drop_eq_getElem_cons hlt]
          congr 1
          rw [List.getElem?_eq_getElem hlt] at hx
          exact Option.some.inj hx
        rw [hdrop] at k2
        obtain ⟨jgo, jy⟩ := hw.go s2 pp.2 ok2.hr i x hx
        simp only [goFor] at k2
        cases hbt : bindT gt x z2 with
        | none => rw [hbt] at k2; exact False.elim k2
        | some z3 =>
          rw [hbt] at k2
          simp only at k2
          refine .inr ⟨jgo, fun σ' H' => ∃ (s2 : S0) (z2 : Slots), i + 1 ≤ xs.length ∧ s2.H = H' ∧ Ok F s2 z2 σ' ∧ (Ps s2 ∧ Tr true s s2) ∧ PostS F W (fun s2 => Ps s2 ∧ Tr true s s2) D (goFor gt (fun σ h => evB F.T (phi P n) b σ h) (xs.drop (i + 1)) z2 s2.h), fun σ' H' ⟨s3, z3, h1, h2, h3, h4, h5⟩ => ⟨xs.length - (i + 1), by omega, s3, z3, rfl, h1, h2, h3, h4, h5⟩, fun v H' y => ?_⟩
          obtain ⟨s3, e3, gr, rx⟩ := jy v H' y
          subst e3
          have ok3 := gr.ok ok2
          have pp3 := cl'.ext s2 s3 ok2.hr pp gr.ext
          rw [← g.K]
          refine gOf_ok gt rx hbt ok3.sr.len fun σ3 bd => ?_
          have k3 : PostS F W (fun s2 => Ps s2 ∧ Tr true s s2) D (match evB F.T (phi P n) b z3 s3.h with
            | .next z h => goFor gt (fun σ h => evB F.T (phi P n) b σ h) (xs.drop (i + 1)) z h
            | .cont z h => goFor gt (fun σ h => evB F.T (phi P n) b σ h) (xs.drop (i + 1)) z h
            | .brk z h => .next z h
            | .ret e h => .ret e h
            | .exc c fs z h => .exc c fs z h
            | .stuck => .stuck) := by
            rw [gr.h]
            revert k2
            cases evB F.T (phi P n) b z3 s2.h <;> exact fun k => k
          exact sndB b g hp hk hb cl' (bd.ok ok3) pp3 (k3.turn fun s4 z4 σ4 p4 ok4 k4 => ⟨s4, z4, hlt, rfl, ok4, p4, k4⟩)
      · have e : i = xs.length := by omega
        subst e
        refine .inl ⟨hw.stop s2 pp.2 ok2.hr _ (Nat.le_refl _), ?_⟩
        rw [List.drop_length] at k2
        simp only [goFor] at k2
        exact k2 s2 σ2 rfl pp ok2
  | .while c b, n, F, X, m, W, st, g, hp, hk, h, t, z, σ, Ps, D, cl, ok, pt, p => by
    cases h with
    | «while» hc hb =>
      simp only [ev1] at p
      refine atS (ps_while hp pt_at pss_at) ?_
      refine ⟨fun mm σ H => ∃ (s2 : S0) (z2 : Slots), s2.H = H ∧ Ok F s2 z2 σ ∧ Ps s2 ∧ PostS F W Ps D (goWhile (fun σ h => evT F.T (phi P n) σ c h) (fun σ h => evB F.T (phi P n) b σ h) mm z2 s2.h), ⟨fuel, t, z, rfl, ok, pt, p⟩, ?_⟩
      rintro mm σ2 H ⟨s2, z2, rfl, ok2, p2, k2⟩
      cases mm with
      | zero => exact False.elim k2
      | succ mm =>
        simp only [goWhile] at k2
        refine sndT c g hc ok2 ((PostS.expr (R := RepB) cl ok2 p2 k2).imp fun d H1 ⟨s3, d', q1, a1, p3, r1, k3⟩ => ?_)
        subst q1
        obtain rfl : d' = d := r1
        cases d' with
        | false =>
          rw [if_neg (by decide)]
          exact k3 s3 σ2 rfl p3 a1.ok
        | true =>
          rw [if_pos rfl]
          refine ⟨fun σ' H' => ∃ (s2 : S0) (z2 : Slots), s2.H = H' ∧ Ok F s2 z2 σ' ∧ Ps s2 ∧ PostS F W Ps D (goWhile (fun σ h => evT F.T (phi P n) σ c h) (fun σ h => evB F.T (phi P n) b σ h) mm z2 s2.h), fun σ' H' q => ⟨mm, by omega, q⟩, ?_⟩
          have k4 : PostS F W Ps D (match evB F.T (phi P n) b z2 s3.h with
            | .next z h => goWhile (fun σ h => evT F.T (phi P n) σ c h) (fun σ h => evB F.T (phi P n) b σ h) mm z h
            | .cont z h => goWhile (fun σ h => evT F.T (phi P n) σ c h) (fun σ h => evB F.T (phi P n) b σ h) mm z h
            | .brk z h => .next z h
            | .ret e h => .ret e h
            | .exc c fs z h => .exc c fs z h
            | .stuck => .stuck) := by
            revert k3
            show PostS F W Ps D (match evB F.T (phi P n) b z2 s3.h with
              | .next z h => _
              | .cont z h => _
              | .brk z h => _
              | .ret e h => _
              | .exc c fs z h => _
              | .stuck => _) → _
            cases evB F.T (phi P n) b z2 s3.h <;> exact fun k => k
          exact sndB b g hp hk hb cl a1.ok p3 (k4.turn fun s4 z4 σ4 p4 ok4 k4 => ⟨s4, z4, rfl, ok4, p4, k4⟩)
  | .brk, n, F, X, m, W, st, g, hp, hk, h, t, z, σ, Ps, D, cl, ok, pt, p => by
    cases h with
    | brk =>
      simp only [ev1] at p
      exact atS ps_break (p t σ rfl pt ok)
  | .cont, n, F, X, m, W, st, g, hp, hk, h, t, z, σ, Ps, D, cl, ok, pt, p => by
    cases h with
    | cont =>
      simp only [ev1] at p
      exact atS ps_continue (p t σ rfl pt ok)
  | .pass, n, F, X, m, W, st, g, hp, hk, h, t, z, σ, Ps, D, cl, ok, pt, p => by
    cases h with
    | pass =>
      simp only [ev1] at p
      exact atS ps_pass (p t σ rfl pt ok)
  | .raise _ _, n, F, X, m, W, st, g, hp, hk, h, t, z, σ, Ps, D, cl, ok, pt, p => by cases h
  | .try_ _ _, n, F, X, m, W, st, g, hp, hk, h, t, z, σ, Ps, D, cl, ok, pt, p => by cases h
  | .mut d i mm es, n, F, X, m, W, st, g, hp, hk, h, t, z, σ, Ps, D, cl, ok, pt, p => by
    cases h with
    | app hv hln hst he =>
      rename_i c x px pa e q p'
      obtain ⟨h1, h2, h3, h4⟩ := vis_of g hv
      simp only [ev1] at p
      cases hr : evK F.T (phi P n) z [c] t.h with
      | exc _ _ _ => rw [hr] at p; exact False.elim p
      | stuck => rw [hr] at p; exact False.elim p
      | ok us h' =>
        rw [hr] at p
        simp only at p
        cases hz : z[i]? with
        | none => rw [hz] at p; exact False.elim p
        | some x0 =>
          rw [hz] at p
          rcases x0 with _ | (_ | u)
          · exact False.elim p
          · exact False.elim p
          simp only at p
          cases hm : mmeth .append u us with
          | none => rw [hm] at p; exact False.elim p
          | some ru =>
            obtain ⟨r, u'⟩ := ru
            rw [hm] at p
            simp only at p
            obtain ⟨xs, w, rfl, rfl, hlt, rfl⟩ : ∃ xs w, u = .lst xs ∧ us = [w] ∧ xs.length < line ∧ u' = .lst (xs ++ [w]) := by
              cases u with
              | lst xs =>
                rcases us with _ | ⟨w, _ | ⟨w2, us⟩⟩
                · cases hm
                · have hm : (if xs.length < line then some (U.non, U.lst (xs ++ [w])) else none) = some (r, u') := hm
                  split at hm
                  · rename_i hl
                    cases hm
                    exact ⟨xs, w, rfl, rfl, hl, rfl⟩
                  · cases hm
                · cases hm
              | _ => cases hm
            obtain ⟨a, ea, hc, hM, _⟩ := ok.sr.own i _ hz
            obtain ⟨vs, hH, rs⟩ : ∃ vs, t.H a = some (.lst vs) ∧ F.reps t xs vs := hc
            refine atS (ps_expr (pe_bm PySem.F.plainAttrs_list PySem.F.slot_list_append PySem.F.type_list_append mt_append (pe_var h1 h2 h3 h4) pa_at rfl (by rw [star_of hst]; rfl) hln (star_of hst _ _) rfl) rfl) ⟨.ref a, ea, .inl ⟨rfl, vs, .inl (.inl hH)⟩, ?_⟩
            have hK : Post F z σ W t (RepK F 1) (fun ys H1 => ∃ s, s.H = H1 ∧ At F z σ t s ∧ Ps s ∧ s.h = h' ∧ ∃ y, ys = [y] ∧ F.rep s w y) (evK F.T (phi P n) z [c] t.h) := by
              rw [hr]
              intro s ys e1 x1 ok1 r1
              refine ⟨s, rfl, ⟨x1, ok1⟩, cl.ext _ _ ok.hr pt x1, e1, ?_⟩
              obtain ⟨r1, _⟩ := r1
              rcases ys with _ | ⟨y, _ | ⟨y2, ys⟩⟩
              · have := Reps.length r1; simp at this
              · unfold Fx.reps at r1
                simp only [Reps] at r1
                exact ⟨y, rfl, r1.1⟩
              · have := Reps.length r1; simp at this
            refine (sndK [c] g (.cons hst he .nil) ok hK).imp fun ys H1 ⟨s, q1, a1, p1, q2, y, e3, ry⟩ => ?_
            subst q1
            subst e3
            obtain ⟨a', ea', hc', hM', hB', hi', h0'⟩ := a1.ok.sr.own i _ hz
            rw [ea] at ea'; cases ea'
            obtain ⟨vs', hH', rs'⟩ : ∃ vs, s.H a = some (.lst vs) ∧ F.reps s xs vs := hc'
            refine ⟨a, vs', y, rfl, rfl, hH', by rw [← Reps.length rs', ← line_eq]; exact hlt, ?_⟩
            refine p { s with H := upd s.H a (.lst (vs' ++ [y])) } σ q2 (cl.wr s a _ p1 hM' hi' h0') (a1.ok.wroteOwn hz ea ?_)
            refine ⟨_, upd_same, Reps.mo (Mo.wrote hM') (Reps.append rs' ?_)⟩
            unfold Fx.rep at ry
            simp only [Reps]
            exact ⟨ry, trivial⟩
  | .frz _, n, F, X, m, W, st, g, hp, hk, h, t, z, σ, Ps, D, cl, ok, pt, p => by cases h
  | .share _, n, F, X, m, W, st, g, hp, hk, h, t, z, σ, Ps, D, cl, ok, pt, p => by cases h
  | .lam _ _ _, n, F, X, m, W, st, g, hp, hk, h, t, z, σ, Ps, D, cl, ok, pt, p => by cases h
theorem sndB : ∀ (cs : List CS) {n : Nat} {F : Fx} {X : Cx} {m : ME} {W : WX} {st : List Stmt} (g : Good nm df P n F X m W) (hp : PassesOwn (model X.prog X.w) X.A X.env X.xe) (hk : X.env.scope.kind = .function) (h : MB nm df m cs st) {t : S0} {z : Slots} {σ : L2.St} {Ps : S0 → Prop} {D : Ends} (cl : Clo F Ps) (ok : Ok F t z σ) (pt : Ps t) (p : PostS F W Ps D (evB F.T (phi P n) cs z t.h)), SsAt X st D σ t.H
  | [], n, F, X, m, W, st, g, hp, hk, h, t, z, σ, Ps, D, cl, ok, pt, p => by
    cases h with
    | nil =>
      simp only [evB] at p
      exact atSs pss_nil (p t σ rfl pt ok)
  | c :: cs, n, F, X, m, W, st, g, hp, hk, h, t, z, σ, Ps, D, cl, ok, pt, p => by
    simp only [evB] at p
    cases h with
    | frz h1 =>
      rename_i i
      simp only [ev1] at p
      cases hz : z[i]? with
      | none => rw [hz] at p; exact False.elim p
      | some x =>
        rw [hz] at p
        cases x with
        | none => exact False.elim p
        | some x =>
          cases x with
          | val u => exact sndB cs g hp hk h1 cl ok pt p
          | own u =>
            obtain ⟨s', e1, e2, x, ok'⟩ := ok.frz hz
            rw [← e1]
            exact sndB cs g hp hk h1 cl ok' (cl.ext t s' ok.hr pt x) (by rw [e2]; exact p)
    | share h1 =>
      rename_i i
      simp only [ev1] at p
      cases hz : z[i]? with
      | none => rw [hz] at p; exact False.elim p
      | some x =>
        rw [hz] at p
        cases x with
        | none => exact False.elim p
        | some x =>
          cases x with
          | val u => exact False.elim p
          | own u =>
            cases hh : t.h with
            | none => rw [hh] at p; exact False.elim p
            | some xs =>
              rw [hh] at p
              obtain ⟨a, h0, ok'⟩ := ok.share hz hh
              exact sndB cs (t := { t with io := t.io ++ [a], h := some (xs ++ [u]) }) g hp hk h1 cl ok' (cl.sh t a _ pt h0 (by rw [hh]; rfl)) p
    | cons h1 h2 =>
      exact atSs (pss_cons ps_at pss_at) (sndSt c g hp hk h1 cl ok pt (PostS.seq (K := fun z h => evB F.T (phi P n) cs z h) (fun s z2 σ2 ps ok2 k => sndB cs g hp hk h2 cl ok2 ps k) (by
        revert p
        cases ev1 F.T (phi P n) c z t.h <;> exact fun k => k)))
end
end Mi
namespace Mi
open PySem PySem.Spec L2
def andB (a b : Bool) : Bool := match a with
  | true => b
  | false => false
theorem and_l {a b : Bool} (h : andB a b = true) : a = true := by cases a <;> first | rfl | cases h
theorem and_r {a b : Bool} (h : andB a b = true) : b = true := by cases a <;> first | exact h | cases h
mutual
def gB (m : ME) : Tgt → Expr → Bool
  | .nm i, e => match e with
    | .Name x _ => locB m i x
    | _ => false
  | .tp ts, e => match e with
    | .Tuple es _ _ => gsB m ts es
    | _ => false
def gsB (m : ME) : List Tgt → List Expr → Bool
  | [], es => es.isEmpty
  | t :: ts, es => match es with
    | e :: es => andB (!starB e) (andB (gB m t e) (gsB m ts es))
    | [] => false
end
mutual
theorem gB_ok {m : ME} : ∀ (g : Tgt) {e : Expr}, gB m g e = true → MG m g e
  | .nm i, e, h => by
    simp only [gB] at h
    split at h
    · exact .nm h
    · cases h
  | .tp ts, e, h => by
    simp only [gB] at h
    split at h
    · exact .tp (gsB_ok ts h)
    · cases h
theorem gsB_ok {m : ME} : ∀ (ts : List Tgt) {es : List Expr}, gsB m ts es = true → MGs m ts es
  | [], es, h => by
    simp only [gsB, List.isEmpty_iff] at h
    subst h; exact .nil
  | t :: ts, es, h => by
    simp only [gsB] at h
    split at h
    · exact .cons (by simpa using and_l h) (gB_ok t (and_l (and_r h))) (gsB_ok ts (and_r (and_r h)))
    · cases h
end
variable (nm : Nm → Str) (df : Fk → Bool)
mutual
def mE (m : ME) : CE → Expr → Bool
  | .var i, e => match e with
    | .Name x _ => visB m i x
    | _ => false
  | .cst c, e => match e with
    | .Name x _ => andB (glB m x) (decide (x = nm c))
    | _ => false
  | .dct ks vs, e => match ks, vs, e with
    | [], [], .Dict [] [] _ => true
    | _, _, _ => false
  | .bm b o es, e => match b, e with
    | .join, .Call (.Attribute x a pa) ys [] q => andB (decide (a = ("join" : Str))) (andB (baseB x) (andB (pa.endLine == q.line) (andB (decide (ys.length = 1)) (andB (mE m o x) (mEs m es ys)))))
    | _, _ => false
  | .non, e => match e with
    | .Constant .none _ _ => true
    | _ => false
  | .bl b, e => match e with
    | .Constant (.bool c) _ _ => decide (b = c)
    | _ => false
  | .int i, e => match e with
    | .Constant (.int j) _ _ => decide (i = j)
    | _ => false
  | .str x, e => match e with
    | .Constant (.str y) _ _ => decide (x = y)
    | _ => false
  | .tup es, e => match e with
    | .Tuple xs _ _ => andB (decide (xs.length ≤ line)) (mEs m es xs)
    | _ => false
  | .lst es, e => match e with
    | .List xs _ => andB (decide (xs.length ≤ line)) (mEs m es xs)
    | _ => false
  | .op o a b, e => match e with
    | .BinOp x q y _ => andB (bopB o q) (andB (mE m a x) (mE m b y))
    | _ => false
  | .neg a, e => match e with
    | .UnaryOp .USub x _ => mE m a x
    | _ => false
  | .test t, e => mV m t e
  | .cmp o a b, e => match e with
    | .Compare x [q] [y] _ => andB (copB o q) (andB (!behindInMarks q y) (andB (mE m a x) (mE m b y)))
    | _ => false
  | .chain o o' a b c, e => match e with
    | .Compare x [q, q'] [y, w] _ => andB (copB o q) (andB (copB o' q') (andB (!behindInMarks q' w) (andB (mE m a x) (andB (mE m b y) (mE m c w)))))
    | _ => false
  | .call f es k, e => match e with
    | .Call (.Name x _) xs [] _ => andB (decide (k = 0)) (andB (df (.fn f)) (andB (glB m x) (andB (decide (x = nm f)) (andB (!xs.isEmpty) (mEs m es xs)))))
    | _ => false
  | .bf b es, e => match e with
    | .Call (.Name x _) xs [] _ => andB (glB m x) (andB (decide (x = bfS b)) (andB (bfG b) (andB (!xs.isEmpty) (mEs m es xs))))
    | _ => false
  | .isty a ts, e => match ts, e with
    | [t], .Call (.Name x _) [y, .Name z _] [] _ => andB (glB m x) (andB (decide (x = ("isinstance" : Str))) (andB (glB m z) (andB (decide (z = tyS t)) (andB (!starB y) (mE m a y)))))
    | _, _ => false
  | .ix o i, e => match e with
    | .Subscript x y _ => andB (plainB y) (andB (mE m o x) (mE m i y))
    | _ => false
  | .slice o lo hi, e => match e with
    | .Subscript x (.Slice l h none _) _ => andB (mE m o x) (andB (mO m lo l) (mO m hi h))
    | _ => false
  | .comp g it cs c, e => match e with
    | .ListComp elt [⟨tg, iter, ifs, 0⟩] scope _ => andB (blkC m.N m.sc scope (ownC m g)) (andB ((tslots g).all fun i => m.cv.contains i && decide (i < m.N.length)) (andB (!setB iter) (andB (gB (meC m scope) g tg) (andB (mI m g it iter) (andB (mTs (meC m scope) cs ifs) (andB (decide (cs.length ≤ 1)) (mE (meC m scope) c elt)))))))
    | _ => false
  | _, _ => false
def mEs (m : ME) : List CE → List Expr → Bool
  | [], es => es.isEmpty
  | c :: cs, es => match es with
    | e :: es => andB (!starB e) (andB (mE m c e) (mEs m cs es))
    | [] => false
def mO (m : ME) : Option CE → Option Expr → Bool
  | none, e => e.isNone
  | some c, e => match e with
    | some e => mE m c e
    | none => false
def mT (m : ME) : CT → Expr → Bool
  | .val c, e => andB (valB e) (mE m c e)
  | .cmp o a b, e => match e with
    | .Compare x [q] [y] _ => andB (copB o q) (andB (!behindInMarks q y) (andB (mE m a x) (mE m b y)))
    | _ => false
  | .chain o o' a b c, e => match e with
    | .Compare x [q, q'] [y, w] _ => andB (copB o q) (andB (copB o' q') (andB (!behindInMarks q' w) (andB (mE m a x) (andB (mE m b y) (mE m c w)))))
    | _ => false
  | .not t, e => match e with
    | .UnaryOp .Not x _ => mT m t x
    | _ => false
  | .and ts, e => match e with
    | .BoolOp .And es _ => andB (!es.isEmpty) (mTs m ts es)
    | _ => false
  | .or ts, e => match e with
    | .BoolOp .Or es _ => andB (!es.isEmpty) (mTs m ts es)
    | _ => false
  | _, _ => false
def mTs (m : ME) : List CT → List Expr → Bool
  | [], es => es.isEmpty
  | c :: cs, es => match es with
    | e :: es => andB (mT m c e) (mTs m cs es)
    | [] => false
def mV (m : ME) : CT → Expr → Bool
  | .bv c, e => mE m c e
  | .notv c, e => match e with
    | .UnaryOp .Not x _ => mE m c x
    | _ => false
  | .and ts, e => match e with
    | .BoolOp .And es _ => andB (!es.isEmpty) (mVs m ts es)
    | _ => false
  | .or ts, e => match e with
    | .BoolOp .Or es _ => andB (!es.isEmpty) (mVs m ts es)
    | _ => false
  | _, _ => false
def mVs (m : ME) : List CT → List Expr → Bool
  | [], es => es.isEmpty
  | c :: cs, es => match es with
    | e :: es => andB (mV m c e) (mVs m cs es)
    | [] => false
def mI (m : ME) (g : Tgt) : CI → Expr → Bool
  | .seq c, e => andB (!setB e) (mE m c e)
  | .range es, e => match e with
    | .Call (.Name x _) xs [] _ => andB (glB m x) (andB (decide (x = ("range" : Str))) (andB (decide (xs.length = 1 ∨ xs.length = 2 ∨ xs.length = 3)) (mEs m es xs)))
    | _ => false
  | .enum c, e => match g, e with
    | .tp _, .Call (.Name x _) [y] [] _ => andB (glB m x) (andB (decide (x = ("enumerate" : Str))) (andB (!starB y) (mE m c y)))
    | _, _ => false
  | .zip es, e => match g, e with
    | .tp _, .Call (.Name x _) xs [] _ => andB (glB m x) (andB (decide (x = ("zip" : Str))) (andB (decide (xs.length = 2)) (mEs m es xs)))
    | _, _ => false
  | _, _ => false
end
theorem not_t {b : Bool} (h : (!b) = true) : b = false := by cases b <;> first | rfl | cases h
theorem ne_nil {α : Type} {xs : List α} (h : (!xs.isEmpty) = true) : xs ≠ [] := by rintro rfl; cases h
variable {nm df}
mutual
theorem mE_ok : ∀ {m : ME} (c : CE) {e : Expr}, mE nm df m c e = true → MM nm df m c e
  | m, .var i, e, h => by
    simp only [mE] at h; (split at h <;> first | (cases h; done) | skip); exact .var h
  | m, .non, e, h => by
    simp only [mE] at h; (split at h <;> first | (cases h; done) | skip); exact .non
  | m, .bl b, e, h => by
    simp only [mE] at h; (split at h <;> first | (cases h; done) | skip); obtain rfl := of_decide_eq_true h; exact .bl
  | m, .int i, e, h => by
    simp only [mE] at h; (split at h <;> first | (cases h; done) | skip); obtain rfl := of_decide_eq_true h; exact .int
  | m, .str x, e, h => by
    simp only [mE] at h; (split at h <;> first | (cases h; done) | skip); obtain rfl := of_decide_eq_true h; exact .str
  | m, .tup es, e, h => by
    simp only [mE] at h; (split at h <;> first | (cases h; done) | skip); exact .tup (mEs_ok es (and_r h)) (of_decide_eq_true (and_l h))
  | m, .lst es, e, h => by
    simp only [mE] at h; (split at h <;> first | (cases h; done) | skip); exact .lst (mEs_ok es (and_r h)) (of_decide_eq_true (and_l h))
  | m, .op o a b, e, h => by
    simp only [mE] at h; (split at h <;> first | (cases h; done) | skip); exact .op (and_l h) (mE_ok a (and_l (and_r h))) (mE_ok b (and_r (and_r h)))
  | m, .neg a, e, h => by
    simp only [mE] at h; (split at h <;> first | (cases h; done) | skip); exact .neg (mE_ok a h)
  | m, .test t, e, h => by
    simp only [mE] at h; exact .test (mV_ok t h)
  | m, .cmp o a b, e, h => by
    simp only [mE] at h; (split at h <;> first | (cases h; done) | skip); exact .cmp (and_l h) (not_t (and_l (and_r h))) (mE_ok a (and_l (and_r (and_r h)))) (mE_ok b (and_r (and_r (and_r h))))
  | m, .chain o o' a b c, e, h => by
    simp only [mE] at h; (split at h <;> first | (cases h; done) | skip); exact .chain (and_l h) (and_l (and_r h)) (not_t (and_l (and_r (and_r h)))) (mE_ok a (and_l (and_r (and_r (and_r h))))) (mE_ok b (and_l (and_r (and_r (and_r (and_r h)))))) (mE_ok c (and_r (and_r (and_r (and_r (and_r h))))))
  | m, .call f es k, e, h => by
    simp only [mE] at h; (split at h <;> first | (cases h; done) | skip)
    obtain rfl := of_decide_eq_true (and_l h)
    exact .call (and_l (and_r h)) (and_l (and_r (and_r h))) (of_decide_eq_true (and_l (and_r (and_r (and_r h))))) (ne_nil (and_l (and_r (and_r (and_r (and_r h)))))) (mEs_ok es (and_r (and_r (and_r (and_r (and_r h))))))
  | m, .bf b es, e, h => by
    simp only [mE] at h; (split at h <;> first | (cases h; done) | skip)
    exact .bf (and_l h) (of_decide_eq_true (and_l (and_r h))) (and_l (and_r (and_r h))) (ne_nil (and_l (and_r (and_r (and_r h))))) (mEs_ok es (and_r (and_r (and_r (and_r h)))))
  | m, .isty a ts, e, h => by
    simp only [mE] at h; (split at h <;> first | (cases h; done) | skip)
    exact .isty (and_l h) (of_decide_eq_true (and_l (and_r h))) (and_l (and_r (and_r h))) (of_decide_eq_true (and_l (and_r (and_r (and_r h))))) (not_t (and_l (and_r (and_r (and_r (and_r h)))))) (mE_ok a (and_r (and_r (and_r (and_r (and_r h))))))
  | m, .ix o i, e, h => by
    simp only [mE] at h; (split at h <;> first | (cases h; done) | skip); exact .ix (and_l h) (mE_ok o (and_l (and_r h))) (mE_ok i (and_r (and_r h)))
  | m, .slice o lo hi, e, h => by
    simp only [mE] at h; (split at h <;> first | (cases h; done) | skip); exact .slice (mE_ok o (and_l h)) (mO_ok lo (and_l (and_r h))) (mO_ok hi (and_r (and_r h)))
  | m, .comp g it cs c, e, h => by
    simp only [mE] at h; (split at h <;> first | (cases h; done) | skip)
    have h1 := and_r h
    have h2 := and_r h1
    have h3 := and_r h2
    have h4 := and_r h3
    have h5 := and_r h4
    have h6 := and_r h5
    exact .comp (and_l h) (and_l h1) (not_t (and_l h2)) (gB_ok g (and_l h3)) (mI_ok it (and_l h4)) (mTs_ok cs (and_l h5)) (of_decide_eq_true (and_l h6)) (mE_ok c (and_r h6))
  | m, .cst _, e, h => by
    simp only [mE] at h; (split at h <;> first | (cases h; done) | skip); exact .cst (and_l h) (of_decide_eq_true (and_r h))
  | m, .make _ _ _, e, h => by simp [mE] at h
  | m, .dct ks vs, e, h => by
    unfold mE at h
    split at h
    · exact .dct0
    · cases h
  | m, .meth _ _ _, e, h => by simp [mE] at h
  | m, .callv _ _, e, h => by simp [mE] at h
  | m, .bm b o es, e, h => by
    unfold mE at h
    split at h
    · obtain rfl := of_decide_eq_true (and_l h)
      exact .join (and_l (and_r h)) (and_l (and_r (and_r h))) (of_decide_eq_true (and_l (and_r (and_r (and_r h))))) (mE_ok o (and_l (and_r (and_r (and_r (and_r h)))))) (mEs_ok es (and_r (and_r (and_r (and_r (and_r h))))))
    · cases h
  | m, .mm _ _ _, e, h => by simp [mE] at h
  | m, .iscl _ _, e, h => by simp [mE] at h
  | m, .attr _ _, e, h => by simp [mE] at h
  | m, .fstr _, e, h => by simp [mE] at h
theorem mEs_ok : ∀ {m : ME} (cs : List CE) {es : List Expr}, mEs nm df m cs es = true → MMs nm df m cs es
  | m, [], es, h => by
    simp only [mEs, List.isEmpty_iff] at h; subst h; exact .nil
  | m, c :: cs, es, h => by
    simp only [mEs] at h; (split at h <;> first | (cases h; done) | skip); exact .cons (not_t (and_l h)) (mE_ok c (and_l (and_r h))) (mEs_ok cs (and_r (and_r h)))
theorem mO_ok : ∀ {m : ME} (c : Option CE) {e : Option Expr}, mO nm df m c e = true → MO nm df m c e
  | m, none, e, h => by
    simp only [mO, Option.isNone_iff_eq_none] at h; subst h; exact .none
  | m, some c, e, h => by
    simp only [mO] at h; (split at h <;> first | (cases h; done) | skip); exact .some (mE_ok c h)
theorem mT_ok : ∀ {m : ME} (c : CT) {e : Expr}, mT nm df m c e = true → MT nm df m c e
  | m, .val c, e, h => by
    simp only [mT] at h; exact .val (and_l h) (mE_ok c (and_r h))
  | m, .cmp o a b, e, h => by
    simp only [mT] at h; (split at h <;> first | (cases h; done) | skip); exact .cmp (and_l h) (not_t (and_l (and_r h))) (mE_ok a (and_l (and_r (and_r h)))) (mE_ok b (and_r (and_r (and_r h))))
  | m, .chain o o' a b c, e, h => by
    simp only [mT] at h; (split at h <;> first | (cases h; done) | skip); exact .chain (and_l h) (and_l (and_r h)) (not_t (and_l (and_r (and_r h)))) (mE_ok a (and_l (and_r (and_r (and_r h))))) (mE_ok b (and_l (and_r (and_r (and_r (and_r h)))))) (mE_ok c (and_r (and_r (and_r (and_r (and_r h))))))
  | m, .not t, e, h => by
    simp only [mT] at h; (split at h <;> first | (cases h; done) | skip); exact .not (mT_ok t h)
  | m, .and ts, e, h => by
    simp only [mT] at h; (split at h <;> first | (cases h; done) | skip); exact .and (mTs_ok ts (and_r h)) (ne_nil (and_l h))
  | m, .or ts, e, h => by
    simp only [mT] at h; (split at h <;> first | (cases h; done) | skip); exact .or (mTs_ok ts (and_r h)) (ne_nil (and_l h))
  | m, .bv _, e, h => by simp [mT] at h
  | m, .notv _, e, h => by simp [mT] at h
theorem mTs_ok : ∀ {m : ME} (cs : List CT) {es : List Expr}, mTs nm df m cs es = true → MTs nm df m cs es
  | m, [], es, h => by
    simp only [mTs, List.isEmpty_iff] at h; subst h; exact .nil
  | m, c :: cs, es, h => by
    simp only [mTs] at h; (split at h <;> first | (cases h; done) | skip); exact .cons (mT_ok c (and_l h)) (mTs_ok cs (and_r h))
theorem mV_ok : ∀ {m : ME} (c : CT) {e : Expr}, mV nm df m c e = true → MV nm df m c e
  | m, .bv c, e, h => by
    simp only [mV] at h; exact .bv (mE_ok c h)
  | m, .notv t, e, h => by
    simp only [mV] at h; (split at h <;> first | (cases h; done) | skip); exact .not (mE_ok t h)
  | m, .and ts, e, h => by
    simp only [mV] at h; (split at h <;> first | (cases h; done) | skip); exact .and (mVs_ok ts (and_r h)) (ne_nil (and_l h))
  | m, .or ts, e, h => by
    simp only [mV] at h; (split at h <;> first | (cases h; done) | skip); exact .or (mVs_ok ts (and_r h)) (ne_nil (and_l h))
  | m, .val _, e, h => by simp [mV] at h
  | m, .cmp _ _ _, e, h => by simp [mV] at h
  | m, .chain _ _ _ _ _, e, h => by simp [mV] at h
  | m, .not _, e, h => by simp [mV] at h
theorem mVs_ok : ∀ {m : ME} (cs : List CT) {es : List Expr}, mVs nm df m cs es = true → MVs nm df m cs es
  | m, [], es, h => by
    simp only [mVs, List.isEmpty_iff] at h; subst h; exact .nil
  | m, c :: cs, es, h => by
    simp only [mVs] at h; (split at h <;> first | (cases h; done) | skip); exact .cons (mV_ok c (and_l h)) (mVs_ok cs (and_r h))
theorem mI_ok : ∀ {m : ME} {g : Tgt} (c : CI) {e : Expr}, mI nm df m g c e = true → MI nm df m g c e
  | m, g, .seq c, e, h => by
    simp only [mI] at h; exact .seq (not_t (and_l h)) (mE_ok c (and_r h))
  | m, g, .range es, e, h => by
    simp only [mI] at h; (split at h <;> first | (cases h; done) | skip)
    exact .range (and_l h) (of_decide_eq_true (and_l (and_r h))) (of_decide_eq_true (and_l (and_r (and_r h)))) (mEs_ok es (and_r (and_r (and_r h))))
  | m, g, .enum c, e, h => by
    simp only [mI] at h; (split at h <;> first | (cases h; done) | skip)
    exact .enum (and_l h) (of_decide_eq_true (and_l (and_r h))) (not_t (and_l (and_r (and_r h)))) (mE_ok c (and_r (and_r (and_r h))))
  | m, g, .zip es, e, h => by
    simp only [mI] at h; (split at h <;> first | (cases h; done) | skip)
    exact .zip (and_l h) (of_decide_eq_true (and_l (and_r h))) (of_decide_eq_true (and_l (and_r (and_r h)))) (mEs_ok es (and_r (and_r (and_r h))))
  | m, g, .items _, e, h => by simp [mI] at h
  | m, g, .values _, e, h => by simp [mI] at h
  | m, g, .rev _, e, h => by simp [mI] at h
end
/-! ### statements -/
variable (nm df)
mutual
def mS (m : ME) : CS → Stmt → Bool
  | .expr c, s => match s with
    | .Expr e _ => andB (!compB e) (mE nm df m c e)
    | _ => false
  | .set i c, s => match s with
    | .Assign [.Name x px] e _ => andB (locB m i x) (match compB e with
      | false => mE nm df m c e
      | true => match c, e with
        | .comp _ _ _ _, .ListComp elt [⟨tg, iter, ifs, 0⟩] scope pc => andB (swB m x px scope pc) (mE nm df m c (.ListComp elt [⟨tg, iter, ifs, 0⟩] scope pc))
        | _, _ => false)
    | _ => false
  | .own i c, s => match s with
    | .Assign [.Name x px] e _ => andB (locB m i x) (andB (!m.cv.contains i) (match compB e with
      | false => mE nm df m c e
      | true => match c, e with
        | .comp _ _ _ _, .ListComp elt [⟨tg, iter, ifs, 0⟩] scope pc => andB (swB m x px scope pc) (mE nm df m c (.ListComp elt [⟨tg, iter, ifs, 0⟩] scope pc))
        | _, _ => false))
    | _ => false
  | .put g c, s => match g, s with
    | .tp ts, .Assign [.Tuple es k p2] e _ => andB (gB m (.tp ts) (.Tuple es k p2)) (andB (!tupB e) (mE nm df m c e))
    | _, _ => false
  | .ix o i c, s => match s with
    | .Assign [.Subscript x y _] e _ => andB (plainB y) (andB (mE nm df m o x) (andB (mE nm df m i y) (andB (!compB e) (mE nm df m c e))))
    | _ => false
  | .aug i o c, s => match s with
    | .AugAssign (.Name x _) q e _ => andB (locB m i x) (andB (match o, q with
      | .add, .Add => true
      | .sub, .Sub => true
      | _, _ => false) (mE nm df m c e))
    | _ => false
  | .ret c, s => match s with
    | .Return (some e) _ => mE nm df m c e
    | _ => false
  | .retv i, s => match s with
    | .Return (some (.Name x _)) _ => visB m i x
    | _ => false
  | .ret0, s => match s with
    | .Return none _ => true
    | _ => false
  | .ite c a b, s => match s with
    | .If e A B _ => andB (mT nm df m c e) (andB (mB m a A) (mB m b B))
    | _ => false
  | .for_ g it b, s => match s with
    | .For tg e B [] _ => andB (!setB e) (andB (gB m g tg) (andB (mI nm df m g it e) (mB m b B)))
    | _ => false
  | .while c b, s => match s with
    | .While e B [] _ => andB (mT nm df m c e) (mB m b B)
    | _ => false
  | .brk, s => match s with
    | .Break _ => true
    | _ => false
  | .cont, s => match s with
    | .Continue _ => true
    | _ => false
  | .pass, s => match s with
    | .Pass _ => true
    | _ => false
  | .mut d i mm es, s => match d, mm, es, s with
    | none, .append, [c], .Expr (.Call (.Attribute (.Name x _) at_ pa) [e] [] q) _ => andB (decide (at_ = ("append" : Str))) (andB (visB m i x) (andB (pa.endLine == q.line) (andB (!starB e) (mE nm df m c e))))
    | _, _, _, _ => false
  | _, _ => false
def mB (m : ME) : List CS → List Stmt → Bool
  | [], ss => ss.isEmpty
  | c :: cs, ss => match c with
    | .frz _ => mB m cs ss
    | .share _ => mB m cs ss
    | _ => match ss with
      | s :: ss => andB (mS m c s) (mB m cs ss)
      | [] => false
end
variable {nm df}
theorem setM {m : ME} {i : Nat} {c : CE} {x : Str} {px p : Pos} {e : Expr} (h : (match compB e with
      | false => mE nm df m c e
      | true => match c, e with
        | .comp _ _ _ _, .ListComp elt [⟨tg, iter, ifs, 0⟩] scope pc => andB (swB m x px scope pc) (mE nm df m c (.ListComp elt [⟨tg, iter, ifs, 0⟩] scope pc))
        | _, _ => false) = true) : (compB e = false ∧ MM nm df m c e) ∨ ∃ g it cs c' elt tg iter ifs scope pc, c = .comp g it cs c' ∧ e = .ListComp elt [⟨tg, iter, ifs, 0⟩] scope pc ∧ swB m x px scope pc = true ∧ MM nm df m (.comp g it cs c') (.ListComp elt [⟨tg, iter, ifs, 0⟩] scope pc) := by
  split at h
  · rename_i hc
    exact .inl ⟨hc, mE_ok c h⟩
  · split at h
    · exact .inr ⟨_, _, _, _, _, _, _, _, _, _, rfl, rfl, and_l h, mE_ok _ (and_r h)⟩
    · cases h
mutual
theorem mS_ok : ∀ {m : ME} (c : CS) {s : Stmt}, mS nm df m c s = true → MS nm df m c s
  | m, .expr c, s, h => by
    simp only [mS] at h; (split at h <;> first | (cases h; done) | skip); exact .expr (not_t (and_l h)) (mE_ok c (and_r h))
  | m, .set i c, s, h => by
    simp only [mS] at h
    split at h
    · rename_i x px e pp
      rcases setM (i := i) (p := pp) (and_r h) with ⟨h1, h2⟩ | ⟨g, it, cs, c', elt, tg, iter, ifs, scope, pc, rfl, rfl, h1, h2⟩
      · exact .set (and_l h) h1 h2
      · exact .setC (and_l h) h1 h2
    · cases h
  | m, .own i c, s, h => by
    simp only [mS] at h
    split at h
    · rename_i x px e pp
      rcases setM (i := i) (p := pp) (and_r (and_r h)) with ⟨h1, h2⟩ | ⟨g, it, cs, c', elt, tg, iter, ifs, scope, pc, rfl, rfl, h1, h2⟩
      · exact .own (and_l h) (not_t (and_l (and_r h))) h1 h2
      · exact .ownC (and_l h) (not_t (and_l (and_r h))) h1 h2
    · cases h
  | m, .put g c, s, h => by
    simp only [mS] at h; (split at h <;> first | (cases h; done) | skip)
    exact .put (gB_ok _ (and_l h)) (not_t (and_l (and_r h))) (mE_ok c (and_r (and_r h)))
  | m, .ix o i c, s, h => by
    simp only [mS] at h; (split at h <;> first | (cases h; done) | skip)
    exact .ix (and_l h) (mE_ok o (and_l (and_r h))) (mE_ok i (and_l (and_r (and_r h)))) (not_t (and_l (and_r (and_r (and_r h))))) (mE_ok c (and_r (and_r (and_r (and_r h)))))
  | m, .aug i o c, s, h => by
    simp only [mS] at h; (split at h <;> first | (cases h; done) | skip)
    refine .aug (and_l h) ?_ (mE_ok c (and_r (and_r h)))
    have h1 := and_l (and_r h)
    split at h1
    · exact .inl ⟨rfl, rfl⟩
    · exact .inr ⟨rfl, rfl⟩
    · cases h1
  | m, .ret c, s, h => by
    simp only [mS] at h; (split at h <;> first | (cases h; done) | skip); exact .ret (mE_ok c h)
  | m, .retv i, s, h => by
    simp only [mS] at h; (split at h <;> first | (cases h; done) | skip); exact .retv h
  | m, .ret0, s, h => by
    simp only [mS] at h; (split at h <;> first | (cases h; done) | skip); exact .ret0
  | m, .ite c a b, s, h => by
    simp only [mS] at h; (split at h <;> first | (cases h; done) | skip); exact .ite (mT_ok c (and_l h)) (mB_ok a (and_l (and_r h))) (mB_ok b (and_r (and_r h)))
  | m, .for_ g it b, s, h => by
    simp only [mS] at h; (split at h <;> first | (cases h; done) | skip); exact .for_ (not_t (and_l h)) (gB_ok g (and_l (and_r h))) (mI_ok it (and_l (and_r (and_r h)))) (mB_ok b (and_r (and_r (and_r h))))
  | m, .while c b, s, h => by
    simp only [mS] at h; (split at h <;> first | (cases h; done) | skip); exact .while (mT_ok c (and_l h)) (mB_ok b (and_r h))
  | m, .brk, s, h => by
    simp only [mS] at h; (split at h <;> first | (cases h; done) | skip); exact .brk
  | m, .cont, s, h => by
    simp only [mS] at h; (split at h <;> first | (cases h; done) | skip); exact .cont
  | m, .pass, s, h => by
    simp only [mS] at h; (split at h <;> first | (cases h; done) | skip); exact .pass
  | m, .mut d i mm es, s, h => by
    simp only [mS] at h; (split at h <;> first | (cases h; done) | skip)
    obtain rfl := of_decide_eq_true (and_l h)
    exact .app (and_l (and_r h)) (and_l (and_r (and_r h))) (not_t (and_l (and_r (and_r (and_r h))))) (mE_ok _ (and_r (and_r (and_r (and_r h)))))
  | m, .attr _ _ _, s, h => by simp [mS] at h
  | m, .augix _ _ _ _, s, h => by simp [mS] at h
  | m, .augattr _ _ _ _, s, h => by simp [mS] at h
  | m, .raise _ _, s, h => by simp [mS] at h
  | m, .try_ _ _, s, h => by simp [mS] at h
  | m, .frz _, s, h => by simp [mS] at h
  | m, .share _, s, h => by simp [mS] at h
  | m, .lam _ _ _, s, h => by simp [mS] at h
theorem mB_ok : ∀ {m : ME} (cs : List CS) {ss : List Stmt}, mB nm df m cs ss = true → MB nm df m cs ss
  | m, [], ss, h => by
    simp only [mB, List.isEmpty_iff] at h; subst h; exact .nil
  | m, c :: cs, ss, h => by
    simp only [mB] at h
    split at h
    · exact .frz (mB_ok cs h)
    · exact .share (mB_ok cs h)
    · split at h
      · exact .cons (mS_ok c (and_l h)) (mB_ok cs (and_r h))
      · cases h
end
end Mi
namespace Mi
open PySem PySem.Spec L2
theorem fm_congr {α β : Type} {f g : α → Option β} : ∀ {l : List α}, (∀ x ∈ l, f x = g x) → l.filterMap f = l.filterMap g
  | [], _ => rfl
  | x :: r, h => by
    rw [List.filterMap_cons, List.filterMap_cons, h x List.mem_cons_self, fm_congr fun y hy => h y (List.mem_cons_of_mem _ hy)]
theorem zip_look {v : Value} : ∀ {ps : List Str} {us : List Value}, us.length = ps.length → ps.Nodup → (ps.filterMap fun n => ((ps.zip us).lookup n).map (n, ·)) = ps.zip us
  | [], [], _, _ => rfl
  | [], _ :: _, h, _ => by simp at h
  | _ :: _, [], h, _ => by simp at h
  | p :: ps, u :: us, h, nd => by
    obtain ⟨n1, n2⟩ := List.nodup_cons.mp nd
    have ih := zip_look (v := v) (ps := ps) (us := us) (by simpa using h) n2
    rw [List.zip_cons_cons, List.filterMap_cons]
    have e0 : ((p, u) :: ps.zip us).lookup p = some u := by simp [List.lookup]
    rw [e0]
    simp only [Option.map_some]
    congr 1
    refine Eq.trans ?_ ih
    refine fm_congr fun n hn => ?_
    have ne : (n == p) = false := by
      simp only [beq_eq_false_iff_ne, ne_eq]
      rintro rfl
      exact n1 hn
    rw [List.lookup_cons, ne]
theorem zip_some : ∀ {ps : List Str} {us : List Value} {n : Str}, us.length = ps.length → n ∈ ps → ((ps.zip us).lookup n).isNone = false
  | [], _, _, _, h => by simp at h
  | _ :: _, [], _, h, _ => by simp at h
  | p :: ps, u :: us, n, h, hn => by
    rw [List.zip_cons_cons, List.lookup_cons]
    cases e : n == p with
    | true => rfl
    | false =>
      rcases List.mem_cons.mp hn with rfl | hn
      · simp at e
      · exact zip_some (by simpa using h) hn
theorem bind_plain {x qual : Str} {as : List Arg} {body : List Stmt} {scope : Scope} {ps : List Str} (hp : as.map (·.arg) = ps) (nd : ps.Nodup) (kV doc pm : Value) (an : Option Addr) (cdv ct : Value) (us : List Value) (hl : us.length = ps.length) :
    bindArgs (PySem.W.fnOf x qual ⟨[], as, none, [], [], none, []⟩ body scope .none kV doc pm an cdv ct) ⟨us, []⟩ = pure (ps.zip us) := by
  have e1 : seqItems? Value.none = (pure none : Sem (Option (Array Value))) := rfl
  have e2 : ps.filter (fun n => ((ps.zip us).lookup n).isNone) = [] := by
    rw [List.filter_eq_nil_iff]
    intro n hn
    rw [zip_some hl hn]; decide
  have e3 : (ps.filterMap fun n => ((ps.zip us).lookup n).map (n, ·)) = ps.zip us := zip_look (v := .none) hl nd
  unfold bindArgs
  simp only [PySem.W.fnOf, List.map_nil, List.nil_append, hp, List.append_nil]
  simp [e1, e2, e3, hl]
/-! ### a def's body keeps its promise -/
def bltN : List Str := ["len", "abs", "min", "max", "sum", "all", "any", "tuple", "list", "dict", "sorted", "repr", "str", "int", "bool", "divmod", "isinstance", "range", "enumerate", "zip", "reversed", "set"]
theorem clo_ext {F : Fx} {s0 : S0} (h : F.H0 = s0.H) : Clo F (ExtS s0) where
  ext := fun s s' _ p x => p.trans x
  wr := fun s a o p hM hi h0 => by
    rw [h] at h0
    refine ⟨p.pre, fun b o' e nw => ?_, p.mx, p.on, fun b o' e => ?_⟩
    · show upd s.H a o b = some o'
      rw [upd_ne (by rintro rfl; rw [h0] at e; cases e)]
      exact p.keep b o' e nw
    · obtain ⟨o2, e2⟩ := p.stay b o' e
      refine ⟨o2, ?_⟩
      show upd s.H a o b = some o2
      rw [upd_ne (by rintro rfl; rw [h0] at e; cases e)]
      exact e2
  sh := fun s a h' p h0 on => by
    rw [h] at h0
    obtain ⟨x, ex, hx⟩ := p.pre
    refine ⟨⟨x ++ [a], by show s.io ++ [a] = _; rw [ex, List.append_assoc], fun b hb => ?_⟩, p.keep, p.mx, p.on.trans on, p.stay⟩
    rcases List.mem_append.mp hb with hb | hb
    · exact hx b hb
    · obtain rfl := List.mem_singleton.mp hb
      exact h0
  h0 := fun s b p e => by rw [h]; exact p.none_of e
theorem HRel.cv {K : PySem.W.Frag} {G : Glob} {T : Top} {B : AP1} {H : Hp} {c c' : List Nat} {s : S0} (h : HRel ⟨K, G, T, B, H, c⟩ s) : HRel ⟨K, G, T, B, H, c'⟩ s := ⟨h.dom, h.sub, h.iot, h.nd, h.hp⟩
/-- the slots at a def's entry -/
theorem start_ok {F : Fx} {s : S0} {d : CDef} {N : List Str} {us : List U} {vs : List V} (h : HRel F s) (r : F.reps s us vs) (hs : d.slots = N.length) (hl : us.length ≤ d.slots) : Ok F s (args d us) (L2.start N vs) := by
  have l := Reps.length r
  have out : ∀ {i : Nat} {x : Sl}, (args d us)[i]? = some (some x) → ∃ u v, us[i]? = some u ∧ x = .val u ∧ vs[i]? = some v ∧ (L2.start N vs)[i]? = some (some v) := fun {i x} e => by
    unfold args at e
    by_cases hi : i < us.length
    · rw [List.getElem?_append_left (by simpa using hi), List.getElem?_map] at e
      have e1 : us[i]? = some us[i] := List.getElem?_eq_getElem hi
      have e2 : vs[i]? = some (vs[i]'(by omega)) := List.getElem?_eq_getElem (by omega)
      rw [e1] at e
      cases e
      refine ⟨_, _, e1, rfl, e2, ?_⟩
      unfold L2.start
      rw [List.getElem?_append_left (by rw [List.length_map]; omega), List.getElem?_map, e2]
      rfl
    · rw [List.getElem?_append_right (by simpa using hi), List.getElem?_replicate] at e
      split at e <;> cases e
  refine ⟨h, ⟨?_, fun i u e => ?_, fun i u e => ?_, fun i u e => ?_, fun i j u w a e _ _ _ => ?_⟩⟩
  · unfold args L2.start
    simp only [List.length_append, List.length_map, List.length_replicate]
    omega
  · obtain ⟨u', v, e1, e2, e3, e4⟩ := out e
    cases e2
    obtain ⟨v', e5, rv⟩ := Reps.get r e1
    rw [e3] at e5; cases e5
    exact ⟨v, e4, rv⟩
  · obtain ⟨_, _, _, e2, _⟩ := out e
    cases e2
  · obtain ⟨_, _, _, e2, _⟩ := out e
    cases e2
  · obtain ⟨_, _, _, e2, _⟩ := out e
    cases e2
/-- no defaults, no stars -/
def plainArgs (a : Arguments) (ps : List Str) : Bool := match a with
  | ⟨[], as, none, [], [], none, []⟩ => decide (as.map (·.arg) = ps)
  | _ => false
theorem plain_bind {K : PySem.W.Frag} {x qual : Str} {a : Arguments} {body : List Stmt} {scope : Scope} {f : Addr} {fd : FuncData} {ps : List Str} {kws : List (Str × V)} (F : FunD K x qual a body scope [] kws f fd) (h : plainArgs a ps = true) (nd : ps.Nodup) : Binds K fd ps [] := by
  unfold plainArgs at h
  split at h
  · exact F.bindsN fun kV doc pm an cdv ct us hl => bind_plain (of_decide_eq_true h) nd kV doc pm an cdv ct us hl
  · cases h
/-- a look at a def's names -/
def scM (N P : List Str) (sc : Scope) : Bool :=
  andB (decide (sc.kind = .function)) (andB (!sc.isCoroutine) (andB (!sc.isGenerator) (andB (decide N.Nodup) (andB (decide (N.take P.length = P)) (andB (P.all fun x => decide (sc.names.lookup x = some .local) || decide (sc.names.lookup x = some .cell)) (sc.names.all fun y => !decide (y.2 = .free)))))))
theorem scM_ok {N P : List Str} {sc : Scope} (h : scM N P sc = true) : FnScope N P sc := by
  unfold scM at h
  have h1 := and_r h
  have h2 := and_r h1
  have h3 := and_r h2
  have h4 := and_r h3
  have h5 := and_r h4
  refine ⟨of_decide_eq_true (and_l h), not_t (and_l h1), not_t (and_l h2), of_decide_eq_true (and_l h3), of_decide_eq_true (and_l h4), fun x hx => ?_, fun y hy e => ?_⟩
  · have := List.all_eq_true.mp (and_l h5) x hx
    simpa using this
  · have := List.all_eq_true.mp (and_r h5) y hy
    rw [e] at this
    cases this
/-- a def's datum: the text, the clean reading -/
structure DD where
  k : Fk
  d : He.DefD
  N : List Str
  ps : List Str
  c : CDef
  cv : List Nat
def DD.me (x : DD) : ME := ⟨x.N, x.d.scope, fun _ => true, x.cv⟩
def DD.ok (nm : Nm → Str) (df : Fk → Bool) (x : DD) : Bool := andB (scM x.N x.ps x.d.scope) (andB (plainArgs x.d.params x.ps) (andB (x.d.dfl.isEmpty && x.d.kwd.isEmpty) (andB (decide (x.c.params = x.ps.length) && decide (x.c.slots = x.N.length)) (mB nm df x.me x.c.body x.d.body))))
def isFn : Fk → Bool
  | .fn _ => true
  | _ => false
/-- the ground on which a program's defs stand -/
structure Base (nm : Nm → Str) (df : Fk → Bool) (P : Prog) (K : PySem.W.Frag) (G : Glob) (mg : Str → Option Value) : Prop where
  bl : ∀ x, x ∈ bltN → mg x = none
  dfs : ∀ k, df k = true → ∃ d, P.defs k = some d
  gf : ∀ f d, P.defs (.fn f) = some d → mg (nm f) = some (.ref (G.ad (.fn f)))
  cs : ∀ c u, P.cst c = some u → ∃ v w, mg (nm c) = some w ∧ RelV v w ∧ ∀ io M H, Rep K G P.lay io M H u v
  dd : ∀ k d, P.defs k = some d → ∃ x : DD, isFn k = true ∧ x.c = d ∧ x.ok nm df = true ∧ ∃ fd, FunD K x.d.name x.d.qual x.d.params x.d.body x.d.scope (x.d.dvs K) (x.d.kws K) (G.ad k) fd
theorem isEmpty_of {α : Type} {l : List α} (h : l.isEmpty = true) : l = [] := List.isEmpty_iff.mp h
theorem plain_bindA {K : PySem.W.Frag} {x qual : Str} {a : Arguments} {body : List Stmt} {scope : Scope} {f : Addr} {fd : FuncData} {ps : List Str} {kws : List (Str × V)} (F : FunD K x qual a body scope [] kws f fd) (h : plainArgs a ps = true) (nd : ps.Nodup) (s : Shared) (us : List Value) (hl : us.length = ps.length) : BindsTo s fd ⟨us, []⟩ (ps.zip us) := by
  unfold plainArgs at h
  split at h
  · exact F.bindsA (fun kV doc pm an cdv ct us hl => bind_plain (of_decide_eq_true h) nd kV doc pm an cdv ct us hl) s us hl
  · cases h
theorem fn_okX {nm : Nm → Str} {df : Fk → Bool} {P : Prog} {K : PySem.W.Frag} {G : Glob} {mg : Str → Option Value} {PR : Program} {w : World} {base : Heap} (b : Base nm df P K G mg) :
    ∀ (n : Nat) (k : Fk) (x : DD) (fd : FuncData), P.defs k = some x.c → isFn k = true → x.ok nm df = true → FunD K x.d.name x.d.qual x.d.params x.d.body x.d.scope (x.d.dvs K) (x.d.kws K) (G.ad k) fd → FnOk PR w K mg base (L2.CX PR w) n (G.ad k) fd x.ps (spF K G P n k) ∧ Binds K fd x.ps [] ∧ PySem.W.keepIn K (.ref (G.ad k)) = true
  | 0, k, x, fd, h, hk, hok, FD => by
    unfold DD.ok at hok
    have S := scM_ok (and_l hok)
    have hd := and_l (and_r (and_r hok))
    simp only [Bool.and_eq_true] at hd
    have e1 : x.d.dvs K = [] := by unfold He.DefD.dvs; rw [isEmpty_of hd.1]; rfl
    rw [e1] at FD
    have ndP : x.ps.Nodup := by rw [← S.pre]; exact S.nd.sublist (List.take_sublist _ _)
    refine ⟨⟨fun vs H Q E hs => ?_, fun A outer s H args us vs Q E hr e0 hb hv hs => ?_⟩, plain_bind FD (and_l (and_r hok)) ndP, FD.kp⟩
    · obtain ⟨B, s, us, _, _, _, q⟩ := hs
      exact False.elim q
    · obtain ⟨B, s, us, _, _, _, q⟩ := hs
      exact False.elim q
  | n + 1, k, x, fd, h, hk, hok, FD => by
    unfold DD.ok at hok
    have S := scM_ok (and_l hok)
    have hd := and_l (and_r (and_r hok))
    simp only [Bool.and_eq_true] at hd
    have e1 : x.d.dvs K = [] := by unfold He.DefD.dvs; rw [isEmpty_of hd.1]; rfl
    rw [e1] at FD
    have ndP : x.ps.Nodup := by rw [← S.pre]; exact S.nd.sublist (List.take_sublist _ _)
    have hpl : x.ps.length ≤ x.N.length := by have := congrArg List.length S.pre; rw [List.length_take] at this; omega
    have hn := and_l (and_r (and_r (and_r hok)))
    simp only [Bool.and_eq_true, decide_eq_true_eq] at hn
    have hm := mB_ok _ (and_r (and_r (and_r (and_r hok))))
    have hphi : ∀ us hh, phi P (n + 1) k us hh = runDef P.toTop (phi P n) x.c us hh := fun us hh => by
      cases k with
      | me c m => cases hk
      | fn f => simp only [phi, h]
    have hlen : ∀ vs H Q E, spF K G P (n + 1) k vs H Q E → vs.length = x.ps.length := fun vs H Q E hs => by
      obtain ⟨B, s, us, _, _, r, q⟩ := hs
      rw [hphi] at q
      have l := Reps.length r
      unfold runDef at q
      split at q
      · rename_i hl
        split at hl
        · omega
        · cases hl
      · rename_i hl
        split at hl
        · omega
        · cases hl
      · exact False.elim q
    refine ⟨FD.ok S hlen fun cdv A outer s H vs Q E hr hsp => ?_, plain_bind FD (and_l (and_r hok)) ndP, FD.kp⟩
    refine ⟨_, pss_at, ?_⟩
    have hvl := hlen _ _ _ _ hsp
    obtain ⟨B, s0, us, rfl, hrel, r, q⟩ := hsp
    rw [hphi] at q
    have l := Reps.length r
    have ulen : us.length = x.c.params := by omega
    have tk : Takes (cxOf (L2.CX PR w) PR w K mg base x.N x.d.qual x.d.scope (G.ad k) cdv A outer s s0.H E) (fun cls d _ H => E cls d H) := takes_of rfl rfl rfl rfl
    have ps : PassesOwn (model PR w) (cxOf (L2.CX PR w) PR w K mg base x.N x.d.qual x.d.scope (G.ad k) cdv A outer s s0.H E).A (cxOf (L2.CX PR w) PR w K mg base x.N x.d.qual x.d.scope (G.ad k) cdv A outer s s0.H E).env (cxOf (L2.CX PR w) PR w K mg base x.N x.d.qual x.d.scope (G.ad k) cdv A outer s s0.H E).xe := passes_of (X := cxOf (L2.CX PR w) PR w K mg base x.N x.d.qual x.d.scope (G.ad k) cdv A outer s s0.H E) rfl
    have g : Good nm df P n ⟨K, G, P.toTop, B, s0.H, x.cv⟩ (cxOf (L2.CX PR w) PR w K mg base x.N x.d.qual x.d.scope (G.ad k) cdv A outer s s0.H E) x.me (fun cls d _ H => E cls d H) := {
      hN := rfl
      sc := rfl
      fn := rfl
      cv := rfl
      nd := S.nd
      calm := rfl
      takes := tk
      K := rfl
      T := rfl
      room := hr
      bl := b.bl
      df := b.dfs
      fns := fun k d h => by
        obtain ⟨x', hk', hc, hok', fd', FD'⟩ := b.dd k d h
        rw [← hc] at h
        obtain ⟨f1, f2, f3⟩ := fn_okX (PR := PR) (w := w) (base := base) b n k x' fd' h hk' hok' FD'
        exact ⟨⟨fd', x'.ps, f1, f2⟩, f3⟩
      gf := b.gf
      cs := b.cs }
    refine sndB x.c.body g ps S.kind hm (Ps := ExtS s0) (clo_ext rfl) (start_ok hrel.cv r hn.2 (by omega)) ExtS.refl ?_
    unfold runDef at q
    rw [if_pos ulen] at q
    revert q
    show (match (match evB P.toTop (phi P n) x.c.body (args x.c us) s0.h with
      | .next _ h => Res.ok (Mi.E.fz U.non) h
      | .ret e h => .ok e h
      | .exc c fs _ h => .exc c fs h
      | _ => .stuck) with
      | .ok e h' => _
      | .exc c fs h' => _
      | .stuck => _) → PostS ⟨K, G, P.toTop, B, s0.H, x.cv⟩ (fun cls d _ H => E cls d H) (ExtS s0) _ (evB P.toTop (phi P n) x.c.body (args x.c us) s0.h)
    cases evB P.toTop (phi P n) x.c.body (args x.c us) s0.h with
    | next z h => exact fun q s' σ' e p ok => q s' .non e p ok.hr.cv (by show Rep K G P.lay s'.io s'.M s'.H .non .non; simp only [Rep])
    | brk z h => exact fun q => False.elim q
    | cont z h => exact fun q => False.elim q
    | ret e h =>
      intro q s' v e' p hr' rq
      refine q s' v e' p hr'.cv ?_
      cases e with
      | fz u => exact rq
      | own u => exact rq
      | loc i => exact False.elim rq
    | exc c fs z h => exact fun q s' d σ' e p ok xa => q s' d e p ok.hr.cv xa
    | stuck => exact fun q => q
end Mi
namespace Mi
open PySem PySem.Spec L2
theorem fnOk_weak {P : Program} {w : World} {K : PySem.W.Frag} {mg : Str → Option Value} {base : Heap} {CX CX' : CXT} {k : Nat} {f : Addr} {fd : FuncData} {ps : List Str} {sp : Sp} (F : FnOk P w K mg base CX k f fd ps sp)
    (h : ∀ outer H s E e s', CX outer H s E e s' → CX' outer H s E e s') : FnOk P w K mg base CX' k f fd ps sp :=
  ⟨F.len, fun A outer s H args us vs Q E hr he hb hv hs => codeAny_mono (F.run A outer s H args us vs Q E hr he hb hv hs) fun r s' q => by
    cases r with
    | ok fl => cases fl <;> exact q
    | error e => exact h _ _ _ _ _ _ q⟩
/-- an exception may come only where one is wanted -/
def CXE : CXT := fun _ _ _ E _ _ => ∃ c d H, E c d H
def fnN : Fk → Nm
  | .fn f => f
  | .me c _ => c
def getD (dds : List DD) (k : Fk) : Option DD := dds.find? fun x => decide (x.k = k)
def progOf (T : Top) (kind : Nm → CK) (dds : List DD) : Prog := { toTop := T, kind := kind, defs := fun k => (getD dds k).map (·.c) }
def dfOf (dds : List DD) (k : Fk) : Bool := (getD dds k).isSome
theorem look_mem {n : Nm} {u : U} : ∀ {l : List (Nm × U)}, l.lookup n = some u → (n, u) ∈ l
  | [], h => by cases h
  | (a, b) :: r, h => by
    rw [List.lookup_cons] at h
    cases e : n == a with
    | true =>
      rw [e] at h
      cases h
      rw [eq_of_beq e]
      exact List.mem_cons_self
    | false =>
      rw [e] at h
      exact List.mem_cons_of_mem _ (look_mem h)
/-- the module's constants: whole numbers, texts -/
def cFa (nm : Nm → Str) (p : Nm × U) : He.Fa := match p.2 with
  | .int i => .int (nm p.1) i
  | .str x => .str (nm p.1) x
  | _ => .free (nm p.1)
def cOk (p : Nm × U) : Bool := match p.2 with
  | .int _ => true
  | .str _ => true
  | _ => false
def topOf (cs : List (Nm × U)) : Top := { cst := fun c => cs.lookup c, lay := fun _ => [], ups := fun _ => [] }
def fas (nm : Nm → Str) (dds : List DD) (cs : List (Nm × U)) : List He.Fa := dds.map (fun x => .glo (nm (fnN x.k))) ++ (cs.map (cFa nm) ++ bltN.map .free)
def allOk (nm : Nm → Str) (dds : List DD) : Bool := dds.all fun x => andB (isFn x.k) (andB (decide (x.d.at_ = (nm (fnN x.k), none))) (x.ok nm (dfOf dds)))
def globOf (nm : Nm → Str) (K : PySem.W.Frag) : Glob := ⟨nm, fun k => He.ga K (nm (fnN k)), fun c => He.ga K (nm c)⟩
theorem base_of {dds : List DD} {nm : Nm → Str} {cs : List (Nm × U)} {kind : Nm → CK} {K : PySem.W.Frag} {h : Heap} {mg : Str → Option Value} (KX : K.In h) (GN : h.Ns mainGlobals mg) (c : He.SaysD (fas nm dds cs) (dds.map (·.d)) K) (ok : allOk nm dds = true) (okc : cs.all cOk = true) :
    Base nm (dfOf dds) (progOf (topOf cs) kind dds) K (globOf nm K) mg := by
  have fact : ∀ f ∈ fas nm dds cs, f.ok K = true := fun f hf => by
    obtain ⟨i, hi⟩ := List.mem_iff_getElem?.mp hf
    exact c.fact i hi
  have all : ∀ x ∈ dds, isFn x.k = true ∧ x.d.at_ = (nm (fnN x.k), none) ∧ x.ok nm (dfOf dds) = true := fun x hx => by
    have := List.all_eq_true.mp ok x hx
    exact ⟨and_l this, of_decide_eq_true (and_l (and_r this)), and_r (and_r this)⟩
  have look : ∀ k d, (progOf (topOf cs) kind dds).defs k = some d → ∃ x ∈ dds, x.k = k ∧ x.c = d := fun k d hk => by
    have hk : (getD dds k).map (·.c) = some d := hk
    cases e : getD dds k with
    | none => rw [e] at hk; cases hk
    | some x =>
      rw [e] at hk
      cases hk
      exact ⟨x, List.mem_of_find?_eq_some e, of_decide_eq_true (List.find?_some (p := fun x : DD => decide (x.k = k)) (show dds.find? (fun x : DD => decide (x.k = k)) = some x from e)), rfl⟩
  refine ⟨fun x hx => ?_, fun k hk => ?_, fun f d hk => ?_, fun n u hu => ?_, fun k d hk => ?_⟩
  · exact He.free_ok KX GN (fact (.free x) (List.mem_append_right _ (List.mem_append_right _ (List.mem_map_of_mem hx))))
  · show ∃ d, (getD dds k).map (·.c) = some d
    have hk : (getD dds k).isSome = true := hk
    cases e : getD dds k with
    | none => rw [e] at hk; cases hk
    | some x => exact ⟨x.c, rfl⟩
  · obtain ⟨x, hx, e, _⟩ := look _ _ hk
    have := He.glo_ok KX GN (fact (.glo (nm (fnN x.k))) (List.mem_append_left _ (List.mem_map_of_mem (f := fun x : DD => He.Fa.glo (nm (fnN x.k))) hx)))
    rw [e] at this
    exact this
  · have hu : cs.lookup n = some u := hu
    have hm := look_mem hu
    have f := fact (cFa nm (n, u)) (List.mem_append_right _ (List.mem_append_left _ (List.mem_map_of_mem hm)))
    have k := List.all_eq_true.mp okc (n, u) hm
    cases u with
    | int i =>
      obtain ⟨t, e⟩ := He.int_ok KX GN (x := nm n) (i := i) f
      exact ⟨.int i, _, e, ⟨t, rfl⟩, fun io M H => by simp only [Rep]⟩
    | str y =>
      obtain ⟨t, e⟩ := He.str_ok KX GN (x := nm n) (z := y) f
      exact ⟨.str y, _, e, ⟨t, rfl⟩, fun io M H => by simp only [Rep]⟩
    | _ => cases k
  · obtain ⟨x, hx, e, e2⟩ := look _ _ hk
    obtain ⟨a1, a2, a3⟩ := all x hx
    obtain ⟨i, hi⟩ := List.mem_iff_getElem?.mp hx
    obtain ⟨fd, FD⟩ := c.def_ i (d := x.d) (by rw [List.getElem?_map, hi]; rfl)
    refine ⟨x, by rw [← e]; exact a1, e2, a3, fd, ?_⟩
    have ha : He.fAd K x.d.at_ = (globOf nm K).ad k := by
      rw [a2, ← e]
      rfl
    rw [ha] at FD
    exact FD
/-- the law's promise: what the clean reading tells of every script -/
theorem law_sp {P : Prog} {K : PySem.W.Frag} {G : Glob} {n : Nat} {k : Fk} {m : Nat} (hl : ∀ ns : List Int, ns.length ≤ m → ∃ h, phi P n k [.scr ns] (some []) = .ok (.fz (.bl true)) h) (H : Hp) (a : Addr) (ns : List Int) (hn : ns.length ≤ m) (hS : SqL K H a (ns.map V.int)) :
    spF K G P n k [.ref a] H (fun v _ => v = .bl true) fun _ _ _ => False := by
  obtain ⟨h, e⟩ := hl ns hn
  refine ⟨fun _ => False, ⟨[], fun _ => False, some [], H⟩, [.scr ns], rfl, ⟨fun b m => False.elim m, fun b m => m, fun b hb => by simp at hb, by simp, fun xs e => ?_⟩, ?_, ?_⟩
  · have e' : some [] = some xs := e
    cases e'
    exact ⟨rfl, fun n u a e1 _ => by simp at e1⟩
  · simp only [Reps, Rep]
    refine ⟨⟨a, rfl, ?_⟩, trivial⟩
    rcases hS with r | r
    · exact .inl ⟨fun z => z, r⟩
    · exact .inr r
  · show (match phi P n k [.scr ns] (some []) with
      | .ok e h' => _
      | .exc c fs h' => _
      | .stuck => False)
    rw [e]
    intro s' v _ _ _ r
    have r' : Rep K G P.lay s'.io s'.M s'.H (.bl true) v := r
    simpa only [Rep] using r'
/-- the end, by the head's facts -/
theorem law_walk {l : PySem.W.OpenLaw} {q : Program} {loose : List Str} {XP : (Str → Option Value) → Heap → Prop} {d : DefRec} {dds : List DD} {nm : Nm → Str} {cs : List (Nm × U)} {kind : Nm → CK} {m n : Nat} {f : Nm} {x : DD} {param : Str} {hob : Nat}
    (hn : l.most = some m) (hn2 : m ≤ sizeLine) (hdf : d.params.defaults = []) (hr : Room n callerA) (ok : allOk nm dds = true) (okc : cs.all cOk = true) (hx : getD dds (.fn f) = some x) (hps : x.ps = [param]) (hname : d.name = nm f)
    (hl : ∀ ns : List Int, ns.length ≤ m → ∃ h, phi (progOf (topOf cs) kind dds) n (.fn f) [.scr ns] (some []) = .ok (.fz (.bl true)) h) :
    PySem.W.WalkO q loose XP (He.hookD hob (fas nm dds cs) (dds.map (·.d))).says l.row.toRowW d [] (fun f vs => PySem.call f vs) := by
  refine L2.walk_ofE (l := l) (n := m) (k := n) (x := param) (CX := CXE) hn hn2 hdf hr ?_ (fun _ _ _ _ ⟨_, _, _, z⟩ => z)
  intro w mg fa h Y GN hmg
  obtain ⟨K, KX, c⟩ := Y
  have B := base_of (cs := cs) (kind := kind) KX GN c ok okc
  have hdef : (progOf (topOf cs) kind dds).defs (.fn f) = some x.c := by
    show (getD dds (.fn f)).map (·.c) = _
    rw [hx]; rfl
  have hfa : fa = (globOf nm K).ad (.fn f) := by
    have e := B.gf f _ hdef
    rw [hname] at hmg
    rw [hmg] at e
    cases e
    rfl
  subst hfa
  obtain ⟨hk, hok, fd, FD⟩ : isFn (.fn f) = true ∧ x.ok nm (dfOf dds) = true ∧ ∃ fd, FunD K x.d.name x.d.qual x.d.params x.d.body x.d.scope (x.d.dvs K) (x.d.kws K) ((globOf nm K).ad (.fn f)) fd := by
    have hx2 : dds.find? (fun x : DD => decide (x.k = .fn f)) = some x := hx
    have hm := List.mem_of_find?_eq_some hx2
    have hk := of_decide_eq_true (List.find?_some (p := fun x : DD => decide (x.k = .fn f)) hx2)
    have all := List.all_eq_true.mp ok x hm
    obtain ⟨i, hi⟩ := List.mem_iff_getElem?.mp hm
    obtain ⟨fd, FD⟩ := c.def_ i (d := x.d) (by rw [List.getElem?_map, hi]; rfl)
    have ha : He.fAd K x.d.at_ = (globOf nm K).ad (.fn f) := by
      rw [of_decide_eq_true (and_l (and_r all)), hk]
      rfl
    rw [ha] at FD
    exact ⟨rfl, and_r (and_r all), fd, FD⟩
  -- the def's own datum
  have key : ∃ fd : FuncData, (∀ (s : Shared) (u : Value), BindsTo s fd ⟨[u], []⟩ [(param, u)]) ∧ ∀ base : Heap, K.In base → base.Ns mainGlobals mg → FnOk l.prog w K mg base CXE n ((globOf nm K).ad (.fn f)) fd [param] (spF K (globOf nm K) (progOf (topOf cs) kind dds) n (.fn f)) := by
    refine ⟨fd, fun s u => ?_, fun base _ _ => ?_⟩
    · have hok' := hok
      unfold DD.ok at hok'
      have hd := and_l (and_r (and_r hok'))
      simp only [Bool.and_eq_true] at hd
      have e1 : x.d.dvs K = [] := by unfold He.DefD.dvs; rw [isEmpty_of hd.1]; rfl
      rw [e1] at FD
      have S := scM_ok (and_l hok')
      have ndP : x.ps.Nodup := by rw [← S.pre]; exact S.nd.sublist (List.take_sublist _ _)
      have := plain_bindA FD (and_l (and_r hok')) ndP s [u] (by rw [hps]; rfl)
      rw [hps] at this
      exact this
    · have := (fn_okX (PR := l.prog) (w := w) (base := base) B n (.fn f) x fd hdef hk hok FD).1
      rw [hps] at this
      exact fnOk_weak this fun outer H s E e s' ⟨_, _, H', c, d, _, _, _, _, _, _, _, q⟩ => ⟨c, d, H', q⟩
  obtain ⟨fd, hb, hF⟩ := key
  exact ⟨K, fd, _, KX, hb, fun H a ns hle _ hS => law_sp hl H a ns hle hS, hF⟩
end Mi
namespace Mi
open PySem (Str)
/-! ### runs of the clean reading, step by step -/
@[simp] theorem bind_ok_ {α β : Type} (a : α) (h : CH) (f : α → CH → Res β) : (Res.ok a h).bind f = f a h := rfl
@[simp] theorem bind_stuck_ {α β : Type} (f : α → CH → Res β) : (Res.stuck : Res α).bind f = .stuck := rfl
@[simp] theorem st_ok_ {α : Type} (σ : Slots) (a : α) (h : CH) (f : α → CH → RS) : (Res.ok a h).st σ f = f a h := rfl
@[simp] theorem st_stuck_ {α : Type} (σ : Slots) (f : α → CH → RS) : (Res.stuck : Res α).st σ f = .stuck := rfl
@[simp] theorem ofOpt_some_ {α : Type} (a : α) (h : CH) : ofOpt (some a) h = .ok a h := rfl
@[simp] theorem ofOpt_none_ {α : Type} (h : CH) : ofOpt (none : Option α) h = .stuck := rfl
@[simp] theorem ended_fz (u : U) (h : CH) : ended (.ok (.fz u) h) = .ok (.fz u) h := rfl
@[simp] theorem ended_own (u : U) (h : CH) : ended (.ok (.own u) h) = .ok (.own u) h := rfl
@[simp] theorem keep_fz (u : U) (h : CH) : E.keep h (.fz u) = .ok u h := rfl
@[simp] theorem keep_own (u : U) (h : CH) : E.keep h (.own u) = .ok u h := rfl
@[simp] theorem see_int (σ : Slots) (h : CH) (i : Int) : E.see σ h (.fz (.int i)) = some (.int i) := rfl
@[simp] theorem see_bl (σ : Slots) (h : CH) (b : Bool) : E.see σ h (.fz (.bl b)) = some (.bl b) := rfl
@[simp] theorem see_non (σ : Slots) (h : CH) : E.see σ h (.fz .non) = some .non := rfl
@[simp] theorem see_str (σ : Slots) (h : CH) (x : Str) : E.see σ h (.fz (.str x)) = some (.str x) := rfl
@[simp] theorem see_tup (σ : Slots) (h : CH) (xs : List U) : E.see σ h (.fz (.tup xs)) = some (.tup xs) := rfl
@[simp] theorem see_lst (σ : Slots) (h : CH) (xs : List U) : E.see σ h (.fz (.lst xs)) = some (.lst xs) := rfl
@[simp] theorem see_scr (σ : Slots) (h : CH) (xs : List Int) : E.see σ h (.fz (.scr xs)) = some (.scr xs) := rfl
@[simp] theorem see_obj (σ : Slots) (h : CH) (c : Nm) (fs : List U) : E.see σ h (.fz (.obj c fs)) = some (.obj c fs) := rfl
@[simp] theorem see_ref (σ : Slots) (xs : List U) (n : Nat) : E.see σ (some xs) (.fz (.ref n)) = xs[n]? := rfl
@[simp] theorem see_own (σ : Slots) (h : CH) (u : U) : E.see σ h (.own u) = some u := rfl
@[simp] theorem see_loc (σ : Slots) (h : CH) (i : Nat) : E.see σ h (.loc i) = (match σ[i]? with
    | some (some (.own u)) => some u
    | _ => none) := rfl
section
variable (T : Top) (φ : Phi) (σ : Slots) (h : CH)
@[simp] theorem evE_var (i : Nat) : evE T φ σ (.var i) h = (match σ[i]? with
    | some (some (.val u)) => .ok (.fz u) h
    | some (some (.own _)) => .ok (.loc i) h
    | _ => .stuck) := rfl
@[simp] theorem evE_int (i : Int) : evE T φ σ (.int i) h = .ok (.fz (.int i)) h := rfl
@[simp] theorem evE_bl (i : Bool) : evE T φ σ (.bl i) h = .ok (.fz (.bl i)) h := rfl
@[simp] theorem evE_non : evE T φ σ .non h = .ok (.fz .non) h := rfl
@[simp] theorem evE_str (x : Str) : evE T φ σ (.str x) h = .ok (.fz (.str x)) h := rfl
@[simp] theorem evE_tup (es : List CE) : evE T φ σ (.tup es) h = (evK T φ σ es h).bind fun us h => .ok (.fz (.tup us)) h := rfl
@[simp] theorem evE_lst (es : List CE) : evE T φ σ (.lst es) h = (evK T φ σ es h).bind fun us h => .ok (.own (.lst us)) h := rfl
@[simp] theorem evE_op (o : Bop) (a b : CE) : evE T φ σ (.op o a b) h = (evE T φ σ a h).bind fun e h => (evE T φ σ b h).bind fun e' h => ofOpt (see2 σ h e e' (bop o)) h := rfl
@[simp] theorem evE_neg (a : CE) : evE T φ σ (.neg a) h = (seen σ (evE T φ σ a h)).bind fun u h => (match u with
    | .int i => .ok (.fz (.int (-i))) h
    | _ => .stuck) := rfl
@[simp] theorem evE_test (t : CT) : evE T φ σ (.test t) h = (evT T φ σ t h).bind fun b h => .ok (.fz (.bl b)) h := rfl
@[simp] theorem evE_cmp (o : Cop) (a b : CE) : evE T φ σ (.cmp o a b) h = (evE T φ σ a h).bind fun e h => (evE T φ σ b h).bind fun e' h => (ofOpt (see2 σ h e e' (cop o)) h).bind fun c h => .ok (.fz (.bl c)) h := rfl
@[simp] theorem evE_chain (o p : Cop) (a b c : CE) : evE T φ σ (.chain o p a b c) h = (evE T φ σ a h).bind fun e h => (evE T φ σ b h).bind fun e' h => (ofOpt (see2 σ h e e' (cop o)) h).bind fun d h => (match d with
    | true => (evE T φ σ c h).bind fun e'' h => (ofOpt (see2 σ h e' e'' (cop p)) h).bind fun d h => .ok (.fz (.bl d)) h
    | false => .ok (.fz (.bl false)) h) := rfl
@[simp] theorem evE_call (f : Nm) (es : List CE) : evE T φ σ (.call f es 0) h = (evK T φ σ es h).bind fun us h => ended (φ (.fn f) us h) := by
  show (evK T φ σ es h).bind (fun us h => ended (φ (.fn f) (us ++ List.replicate 0 .non) h)) = _
  simp only [List.replicate_zero, List.append_nil]
@[simp] theorem evE_bf (b : Bf) (es : List CE) : evE T φ σ (.bf b es) h = (evSs T φ σ es h).bind fun us h => ofOpt (bfun b us) h := rfl
@[simp] theorem evE_isty (a : CE) (ts : List Ty) : evE T φ σ (.isty a ts) h = (seen σ (evE T φ σ a h)).bind fun u h => (ofOpt (isTys u ts) h).bind fun b h => .ok (.fz (.bl b)) h := rfl
@[simp] theorem evE_ix (o i : CE) : evE T φ σ (.ix o i) h = (evE T φ σ o h).bind fun e h => (evE T φ σ i h).bind fun e' h => (ofOpt (see2 σ h e e' getIx) h).bind fun w h => .ok (.fz w) h := rfl
@[simp] theorem evE_slice (o : CE) (lo hi : Option CE) : evE T φ σ (.slice o lo hi) h = (evE T φ σ o h).bind fun e h => (evO T φ σ lo h).bind fun a h => (evO T φ σ hi h).bind fun b h => ofOpt ((e.see σ h).bind fun u => sliced u a b) h := rfl
/-- a comprehension's turn -/
def compF (g : Tgt) (cs : List CT) (e : CE) (x : U) (h : CH) : Res (Option U) := match bindT g x σ with
  | some σ' => (evTs T φ σ' cs h).bind fun b h => (match b with
    | true => (evE T φ σ' e h).bind fun r h => (r.keep h).bind fun u h => .ok (some u) h
    | false => .ok none h)
  | none => .stuck
theorem evE_comp (g : Tgt) (it : CI) (cs : List CT) (e : CE) : evE T φ σ (.comp g it cs e) h = (evI T φ false σ it h).bind fun xs h => (goComp (compF T φ σ g cs e) xs h []).bind fun ys h => .ok (.own (.lst ys)) h := rfl
@[simp] theorem evK_nil : evK T φ σ [] h = .ok [] h := rfl
@[simp] theorem evK_cons (c : CE) (r : List CE) : evK T φ σ (c :: r) h = (evE T φ σ c h).bind fun e h => (e.keep h).bind fun u h => (evK T φ σ r h).bind fun us h => .ok (u :: us) h := rfl
@[simp] theorem evSs_nil : evSs T φ σ [] h = .ok [] h := rfl
@[simp] theorem evSs_cons (c : CE) (r : List CE) : evSs T φ σ (c :: r) h = (evE T φ σ c h).bind fun e h => (evSs T φ σ r h).bind fun us h => (ofOpt (e.see σ h) h).bind fun u h => .ok (u :: us) h := rfl
@[simp] theorem evO_none : evO T φ σ none h = .ok none h := rfl
@[simp] theorem evO_some (c : CE) : evO T φ σ (some c) h = (evE T φ σ c h).bind fun e h => (match e with
    | .fz (.int i) => .ok (some i) h
    | _ => .stuck) := rfl
@[simp] theorem evT_not (a : CT) : evT T φ σ (.not a) h = (evT T φ σ a h).bind fun b h => .ok (!b) h := rfl
@[simp] theorem evT_notv (c : CE) : evT T φ σ (.notv c) h = (seen σ (evE T φ σ c h)).bind fun u h => (ofOpt (tru u) h).bind fun b h => .ok (!b) h := rfl
@[simp] theorem evT_and (es : List CT) : evT T φ σ (.and es) h = evAnd T φ σ es h := rfl
@[simp] theorem evT_or (es : List CT) : evT T φ σ (.or es) h = evOr T φ σ es h := rfl
@[simp] theorem evT_val (c : CE) : evT T φ σ (.val c) h = (seen σ (evE T φ σ c h)).bind fun u h => ofOpt (tru u) h := rfl
@[simp] theorem evT_bv (c : CE) : evT T φ σ (.bv c) h = (evE T φ σ c h).bind fun e h => (match e with
    | .fz (.bl b) => .ok b h
    | _ => .stuck) := rfl
@[simp] theorem evT_cmp (o : Cop) (a b : CE) : evT T φ σ (.cmp o a b) h = (evE T φ σ a h).bind fun e h => (evE T φ σ b h).bind fun e' h => ofOpt (see2 σ h e e' (cop o)) h := rfl
@[simp] theorem evT_chain (o p : Cop) (a b c : CE) : evT T φ σ (.chain o p a b c) h = (evE T φ σ a h).bind fun e h => (evE T φ σ b h).bind fun e' h => (ofOpt (see2 σ h e e' (cop o)) h).bind fun d h => (match d with
    | true => (evE T φ σ c h).bind fun e'' h => ofOpt (see2 σ h e' e'' (cop p)) h
    | false => .ok false h) := rfl
@[simp] theorem evTs_nil : evTs T φ σ [] h = .ok true h := rfl
@[simp] theorem evTs_cons (c : CT) (r : List CT) : evTs T φ σ (c :: r) h = (evT T φ σ c h).bind fun b h => (match b with
    | true => evTs T φ σ r h
    | false => .ok false h) := rfl
@[simp] theorem evAnd_nil : evAnd T φ σ [] h = .ok true h := rfl
@[simp] theorem evAnd_cons (c : CT) (r : List CT) : evAnd T φ σ (c :: r) h = (evT T φ σ c h).bind fun b h => (match b with
    | true => evAnd T φ σ r h
    | false => .ok false h) := rfl
@[simp] theorem evOr_nil : evOr T φ σ [] h = .ok false h := rfl
@[simp] theorem evOr_cons (c : CT) (r : List CT) : evOr T φ σ (c :: r) h = (evT T φ σ c h).bind fun b h => (match b with
    | true => .ok true h
    | false => evOr T φ σ r h) := rfl
@[simp] theorem evI_seq (st : Bool) (e : CE) : evI T φ st σ (.seq e) h = (evE T φ σ e h).bind fun e h => ofOpt ((e.src st σ).bind itemsU) h := rfl
@[simp] theorem evI_range (st : Bool) (es : List CE) : evI T φ st σ (.range es) h = (evK T φ σ es h).bind fun us h => ofOpt (rangeOf us) h := rfl
@[simp] theorem evI_enum (st : Bool) (e : CE) : evI T φ st σ (.enum e) h = (evE T φ σ e h).bind fun e h => ofOpt ((e.src st σ).bind enumU) h := rfl
@[simp] theorem evI_zip (st : Bool) (es : List CE) : evI T φ st σ (.zip es) h = (evEs T φ σ es h).bind fun xs h => ofOpt ((srcs st σ xs).bind zipOf) h := rfl
@[simp] theorem evEs_nil : evEs T φ σ [] h = .ok [] h := rfl
@[simp] theorem evEs_cons (c : CE) (r : List CE) : evEs T φ σ (c :: r) h = (evE T φ σ c h).bind fun e h => (evEs T φ σ r h).bind fun es h => .ok (e :: es) h := rfl
@[simp] theorem ev1_expr (e : CE) : ev1 T φ (.expr e) σ h = (evE T φ σ e h).st σ fun _ h => .next σ h := rfl
@[simp] theorem ev1_set (i : Nat) (e : CE) : ev1 T φ (.set i e) σ h = (evE T φ σ e h).st σ fun r h => (r.keep h).st σ fun u h => setS i (some (.val u)) σ fun σ => .next σ h := rfl
@[simp] theorem ev1_own (i : Nat) (e : CE) : ev1 T φ (.own i e) σ h = (evE T φ σ e h).st σ fun r h => (match r with
    | .own u => setS i (some (.own u)) σ fun σ => .next σ h
    | _ => .stuck) := rfl
@[simp] theorem ev1_put (g : Tgt) (e : CE) : ev1 T φ (.put g e) σ h = (evE T φ σ e h).st σ fun r h => (r.keep h).st σ fun u h => (match bindT g u σ with
    | some σ => .next σ h
    | none => .stuck) := rfl
@[simp] theorem ev1_ix (o i e : CE) : ev1 T φ (.ix o i e) σ h = (evE T φ σ e h).st σ fun r h => (r.keep h).st σ fun v h => (evE T φ σ o h).st σ fun x h => (evE T φ σ i h).st σ fun y h => (y.keep h).st σ fun k h =>
      chg σ h x (fun u => setIx u k v) fun σ h => .next σ h := rfl
@[simp] theorem ev1_aug (i : Nat) (p : Bop) (e : CE) : ev1 T φ (.aug i p e) σ h = (match σ[i]? with
    | some (some (.val (.int a))) => (seen σ (evE T φ σ e h)).st σ fun v h => (ofOpt (augI p a v) h).st σ fun c h => setS i (some (.val (.int c))) σ fun σ => .next σ h
    | _ => .stuck) := rfl
@[simp] theorem ev1_ret (e : CE) : ev1 T φ (.ret e) σ h = (evE T φ σ e h).st σ fun r h => (match r with
    | .loc _ => .stuck
    | r => .ret r h) := rfl
@[simp] theorem ev1_retv (i : Nat) : ev1 T φ (.retv i) σ h = (match σ[i]? with
    | some (some (.own u)) => .ret (.own u) h
    | some (some (.val u)) => .ret (.fz u) h
    | _ => .stuck) := rfl
@[simp] theorem ev1_ret0 : ev1 T φ .ret0 σ h = .ret (.fz .non) h := rfl
@[simp] theorem ev1_ite (c : CT) (a b : List CS) : ev1 T φ (.ite c a b) σ h = (evT T φ σ c h).st σ fun d h => (match d with
    | true => evB T φ a σ h
    | false => evB T φ b σ h) := rfl
theorem ev1_for (g : Tgt) (it : CI) (b : List CS) : ev1 T φ (.for_ g it b) σ h = (evI T φ true σ it h).st σ fun xs h => goFor g (fun σ h => evB T φ b σ h) xs σ h := rfl
@[simp] theorem ev1_brk : ev1 T φ .brk σ h = .brk σ h := rfl
@[simp] theorem ev1_cont : ev1 T φ .cont σ h = .cont σ h := rfl
@[simp] theorem ev1_pass : ev1 T φ .pass σ h = .next σ h := rfl
@[simp] theorem ev1_frz (i : Nat) : ev1 T φ (.frz i) σ h = (match σ[i]? with
    | some (some (.own u)) => .next (σ.set i (some (.val u))) h
    | some (some (.val u)) => .next σ h
    | _ => .stuck) := rfl
@[simp] theorem ev1_share (i : Nat) : ev1 T φ (.share i) σ h = (match σ[i]?, h with
    | some (some (.own u)), some xs => .next (σ.set i (some (.val (.ref xs.length)))) (some (xs ++ [u]))
    | _, _ => .stuck) := rfl
@[simp] theorem ev1_mut (d : Option Nat) (i : Nat) (m : Mm) (es : List CE) : ev1 T φ (.mut d i m es) σ h = (match evK T φ σ es h with
    | .ok us h => (match σ[i]? with
      | some (some (.own u)) => (match mmeth m u us with
        | some (r, u') => (match d with
          | none => .next (σ.set i (some (.own u'))) h
          | some d => setS d (some (.val r)) (σ.set i (some (.own u'))) fun σ => .next σ h)
        | none => .stuck)
      | _ => .stuck)
    | _ => .stuck) := rfl
@[simp] theorem evB_nil : evB T φ [] σ h = .next σ h := rfl
@[simp] theorem evB_cons (s : CS) (r : List CS) : evB T φ (s :: r) σ h = (match ev1 T φ s σ h with
    | .next σ1 h1 => evB T φ r σ1 h1
    | x => x) := rfl
end
@[simp] theorem seen_ok (σ : Slots) (e : E) (h : CH) : seen σ (.ok e h) = ofOpt (e.see σ h) h := rfl
@[simp] theorem bindT_nm (i : Nat) (u : U) (σ : Slots) : bindT (.nm i) u σ = if i < σ.length then some (σ.set i (some (.val u))) else none := rfl
@[simp] theorem bindT_tp (ts : List Tgt) (xs : List U) (σ : Slots) : bindT (.tp ts) (.tup xs) σ = bindTs ts xs σ := rfl
@[simp] theorem bindTs_nil (σ : Slots) : bindTs [] [] σ = some σ := rfl
@[simp] theorem bindTs_cons (t : Tgt) (ts : List Tgt) (x : U) (xs : List U) (σ : Slots) : bindTs (t :: ts) (x :: xs) σ = (bindT t x σ).bind fun σ' => bindTs ts xs σ' := rfl
@[simp] theorem add_int (i j : Int) : bop .add (.int i) (.int j) = some (.fz (.int (i + j))) := rfl
@[simp] theorem sub_int (i j : Int) : bop .sub (.int i) (.int j) = some (.fz (.int (i - j))) := rfl
theorem mul_int (i j : Int) : bop .mul (.int i) (.int j) = if small i || small j then some (.fz (.int (i * j))) else none := rfl
theorem mul_l {i j : Int} (h : small i = true) : bop .mul (.int i) (.int j) = some (.fz (.int (i * j))) := by rw [mul_int, h]; rfl
theorem mul_r {i j : Int} (h : small j = true) : bop .mul (.int i) (.int j) = some (.fz (.int (i * j))) := by rw [mul_int, h, Bool.or_true]; rfl
theorem mod_int {i j : Int} (h : 0 < j) : bop .mod (.int i) (.int j) = some (.fz (.int (i % j))) := by show (if 0 < j then _ else _) = _; rw [if_pos h]
theorem fdiv_log {i j : Int} (h : 0 < j) (h2 : j.natAbs.log2 < 9000) : bop .fdiv (.int i) (.int j) = some (.fz (.int (i / j))) := by show (if 0 < j ∧ j.natAbs.log2 < 9000 then _ else _) = _; rw [if_pos ⟨h, h2⟩]
theorem log_lt {n k : Nat} (h : n < 2 ^ k) (h0 : 0 < k) : n.log2 < k := by
  by_cases hn : n = 0
  · subst hn; simpa using h0
  · exact (Nat.log2_lt hn).mpr h
theorem fdiv_int {i j : Int} (h : 0 < j) (h2 : j < 1073741824) : bop .fdiv (.int i) (.int j) = some (.fz (.int (i / j))) := by
  refine fdiv_log h (Nat.lt_trans (log_lt (k := 30) ?_ (by decide)) (by decide))
  omega
@[simp] theorem getIx_lst (xs : List U) (i : Int) : getIx (.lst xs) (.int i) = L2.atI xs i := rfl
@[simp] theorem getIx_tup (xs : List U) (i : Int) : getIx (.tup xs) (.int i) = L2.atI xs i := rfl
@[simp] theorem getIx_scr (xs : List Int) (i : Int) : getIx (.scr xs) (.int i) = (L2.atI xs i).map .int := rfl
@[simp] theorem setIx_lst (xs : List U) (i : Int) (v : U) : setIx (.lst xs) (.int i) v = (L2.ixN xs.length i).map fun k => .lst (xs.set k v) := rfl
@[simp] theorem see2_def {α : Type} (σ : Slots) (h : CH) (e e' : E) (f : U → U → Option α) : see2 σ h e e' f = (e.see σ h).bind fun u => (e'.see σ h).bind fun v => f u v := rfl
theorem ixN_nat {n k : Nat} (h : k < n) : L2.ixN n (k : Int) = some k := by
  unfold L2.ixN
  split <;> simp_all <;> omega
theorem atI_nat {α : Type} {xs : List α} {k : Nat} (h : k < xs.length) : L2.atI xs (k : Int) = xs[k]? := by
  unfold L2.atI
  rw [ixN_nat h]
  rfl
@[simp] theorem atI0 {α : Type} (x : α) (r : List α) : L2.atI (x :: r) 0 = some x := by
  have := atI_nat (xs := x :: r) (k := 0) (by simp)
  simpa using this
@[simp] theorem atI1 {α : Type} (x y : α) (r : List α) : L2.atI (x :: y :: r) 1 = some y := by
  have := atI_nat (xs := x :: y :: r) (k := 1) (by simp)
  simpa using this
@[simp] theorem atI2 {α : Type} (x y w : α) (r : List α) : L2.atI (x :: y :: w :: r) 2 = some w := by
  have := atI_nat (xs := x :: y :: w :: r) (k := 2) (by simp)
  simpa using this
@[simp] theorem atI3 {α : Type} (x y w v : α) (r : List α) : L2.atI (x :: y :: w :: v :: r) 3 = some v := by
  have := atI_nat (xs := x :: y :: w :: v :: r) (k := 3) (by simp)
  simpa using this
@[simp] theorem ixN0 (n : Nat) : L2.ixN (n + 1) 0 = some 0 := ixN_nat (k := 0) (by omega)
@[simp] theorem ixN32 : L2.ixN 3 2 = some 2 := ixN_nat (k := 2) (by omega)
@[simp] theorem ixN31 : L2.ixN 3 1 = some 1 := ixN_nat (k := 1) (by omega)
@[simp] theorem ixN30 : L2.ixN 3 0 = some 0 := ixN_nat (k := 0) (by omega)
@[simp] theorem len_lst (xs : List U) : bfun .len [.lst xs] = some (.fz (.int xs.length)) := rfl
@[simp] theorem len_tup (xs : List U) : bfun .len [.tup xs] = some (.fz (.int xs.length)) := rfl
@[simp] theorem len_scr (xs : List Int) : bfun .len [.scr xs] = some (.fz (.int xs.length)) := rfl
@[simp] theorem tuple_lst (xs : List U) : bfun .tuple [.lst xs] = some (.fz (.tup xs)) := rfl
@[simp] theorem tuple_tup (xs : List U) : bfun .tuple [.tup xs] = some (.fz (.tup xs)) := rfl
@[simp] theorem list_lst (xs : List U) : bfun .list [.lst xs] = some (.own (.lst xs)) := rfl
@[simp] theorem list_tup (xs : List U) : bfun .list [.tup xs] = some (.own (.lst xs)) := rfl
@[simp] theorem int_bl (b : Bool) : bfun .int [.bl b] = some (.fz (.int (if b then 1 else 0))) := rfl
@[simp] theorem int_int (i : Int) : bfun .int [.int i] = some (.fz (.int i)) := rfl
@[simp] theorem max_int (i j : Int) : bfun .max [.int i, .int j] = some (.fz (.int (max i j))) := rfl
@[simp] theorem min_int (i j : Int) : bfun .min [.int i, .int j] = some (.fz (.int (min i j))) := rfl
/-- an index within -/
theorem atI_in {α : Type} {xs : List α} {i : Int} (h : 0 ≤ i) (h2 : i < xs.length) : ∃ x ∈ xs, L2.atI xs i = some x := by
  obtain ⟨k, rfl⟩ := Int.eq_ofNat_of_zero_le h
  have hk : k < xs.length := by omega
  exact ⟨xs[k], List.getElem_mem hk, by rw [atI_nat hk, List.getElem?_eq_getElem hk]⟩
@[simp] theorem cop_lt (i j : Int) : cop .lt (.int i) (.int j) = some (decide (i < j)) := rfl
@[simp] theorem cop_le (i j : Int) : cop .le (.int i) (.int j) = some (decide (i ≤ j)) := rfl
@[simp] theorem cop_gt (i j : Int) : cop .gt (.int i) (.int j) = some (decide (j < i)) := rfl
@[simp] theorem cop_ge (i j : Int) : cop .ge (.int i) (.int j) = some (decide (j ≤ i)) := rfl
/-- a for whose turns all end -/
theorem goFor_next {g : Tgt} {f : Slots → CH → RS} (I : Slots → CH → Prop) : ∀ {xs : List U}, (∀ x ∈ xs, ∀ σ h, I σ h → ∃ σ1, bindT g x σ = some σ1 ∧ ∃ σ2 h2, (f σ1 h = .next σ2 h2 ∨ f σ1 h = .cont σ2 h2) ∧ I σ2 h2) →
    ∀ {σ h}, I σ h → ∃ σ2 h2, goFor g f xs σ h = .next σ2 h2 ∧ I σ2 h2
  | [], _, σ, h, i => ⟨σ, h, rfl, i⟩
  | x :: r, st, σ, h, i => by
    obtain ⟨σ1, e1, σ2, h2, e2, i2⟩ := st x List.mem_cons_self σ h i
    obtain ⟨σ3, h3, e3, i3⟩ := goFor_next I (xs := r) (fun y hy => st y (List.mem_cons_of_mem _ hy)) i2
    refine ⟨σ3, h3, ?_, i3⟩
    simp only [goFor, e1]
    rcases e2 with e2 | e2 <;> simp only [e2] <;> exact e3
/-- a comprehension whose turns all give a thing -/
theorem goComp_all {f : U → CH → Res (Option U)} (I : CH → Prop) (R : U → U → Prop) : ∀ {xs : List U}, (∀ x ∈ xs, ∀ h, I h → ∃ u h2, f x h = .ok (some u) h2 ∧ I h2 ∧ R x u) →
    ∀ {h acc}, I h → ∃ ys h2, goComp f xs h acc = .ok (acc ++ ys) h2 ∧ I h2 ∧ ys.length = xs.length ∧ ∀ y ∈ ys, ∃ x ∈ xs, R x y
  | [], _, h, acc, i => ⟨[], h, by simp [goComp], i, rfl, by simp⟩
  | x :: r, st, h, acc, i => by
    obtain ⟨u, h2, e, i2, ru⟩ := st x List.mem_cons_self h i
    obtain ⟨ys, h3, e3, i3, l3, rs⟩ := goComp_all I R (xs := r) (fun y hy => st y (List.mem_cons_of_mem _ hy)) (acc := acc ++ [u]) i2
    refine ⟨u :: ys, h3, ?_, i3, by simp [l3], fun y hy => ?_⟩
    · simp only [goComp, e, e3]
      simp
    · rcases List.mem_cons.mp hy with rfl | hy
      · exact ⟨x, List.mem_cons_self, ru⟩
      · obtain ⟨x', hx, q⟩ := rs y hy
        exact ⟨x', List.mem_cons_of_mem _ hx, q⟩
end Mi
namespace Mi
open PySem (Str)
/-! ### what holds behind a run -/
abbrev XC := Nm → List U → CH → Prop
def noX : XC := fun _ _ _ => False
/-- a dummy that keeps simp out of what it speaks of -/
structure Du {α : Sort _} (a : α) : Type where
structure Lp where
  bk : Slots → CH → Prop
  ct : Slots → CH → Prop
def noL : Lp := ⟨fun _ _ => False, fun _ _ => False⟩
namespace Z
def WP {α : Type} (X : XC) (r : Res α) (Q : α → CH → Prop) : Prop := match r with
  | .ok a h => Q a h
  | .exc c fs h => X c fs h
  | .stuck => False
def WS (N : Slots → CH → Prop) (R : E → CH → Prop) (L : Lp) (X : XC) (r : RS) : Prop := match r with
  | .next σ h => N σ h
  | .brk σ h => L.bk σ h
  | .cont σ h => L.ct σ h
  | .ret e h => R e h
  | .exc c fs _ h => X c fs h
  | .stuck => False
section
variable {α β : Type} {X : XC} {N : Slots → CH → Prop} {R : E → CH → Prop} {L : Lp}
theorem WP_ok (a : α) (h : CH) (Q : α → CH → Prop) : WP X (.ok a h) Q = Q a h := rfl
theorem WP_exc (c : Nm) (fs : List U) (h : CH) (Q : α → CH → Prop) : WP X (.exc c fs h) Q = X c fs h := rfl
theorem WP_stuck (Q : α → CH → Prop) : WP X (.stuck) Q = False := rfl
theorem WP_bind (r : Res α) (f : α → CH → Res β) (Q : β → CH → Prop) : WP X (r.bind f) Q = WP X r fun a h => WP X (f a h) Q := by cases r <;> rfl
theorem WP_ofOpt (o : Option α) (h : CH) (Q : α → CH → Prop) : WP X (ofOpt o h) Q = ∃ a, o = some a ∧ Q a h := by
  cases o with
  | none => simp [ofOpt, WP]
  | some a => simp [ofOpt, WP]
theorem WP_imp {r : Res α} {Q Q' : α → CH → Prop} (h : WP X r Q) (q : ∀ a h, Q a h → Q' a h) : WP X r Q' := by
  cases r with
  | ok a h' => exact q a h' h
  | exc c fs h' => exact h
  | stuck => exact h
theorem WP_of {r : Res α} {a : α} {h : CH} {Q : α → CH → Prop} (e : r = .ok a h) (q : Q a h) : WP X r Q := by rw [e]; exact q
theorem WP_get {r : Res α} {Q : α → CH → Prop} (h : WP noX r Q) : ∃ a h', r = .ok a h' ∧ Q a h' := by
  cases r with
  | ok a h' => exact ⟨a, h', rfl, h⟩
  | exc c fs h' => exact False.elim h
  | stuck => exact False.elim h
theorem WS_next (σ : Slots) (h : CH) : WS N R L X (.next σ h) = N σ h := rfl
theorem WS_brk (σ : Slots) (h : CH) : WS N R L X (.brk σ h) = L.bk σ h := rfl
theorem WS_cont (σ : Slots) (h : CH) : WS N R L X (.cont σ h) = L.ct σ h := rfl
theorem WS_ret (e : E) (h : CH) : WS N R L X (.ret e h) = R e h := rfl
theorem WS_exc (c : Nm) (fs : List U) (σ : Slots) (h : CH) : WS N R L X (.exc c fs σ h) = X c fs h := rfl
theorem WS_stuck : WS N R L X .stuck = False := rfl
theorem WS_st (r : Res α) (σ : Slots) (f : α → CH → RS) : WS N R L X (r.st σ f) = WP X r fun a h => WS N R L X (f a h) := by cases r <;> rfl
theorem WS_imp {N' : Slots → CH → Prop} {R' : E → CH → Prop} {L' : Lp} {X' : XC} {r : RS} (h : WS N R L X r) (n : ∀ σ h, N σ h → N' σ h) (t : ∀ e h, R e h → R' e h) (b : ∀ σ h, L.bk σ h → L'.bk σ h) (c : ∀ σ h, L.ct σ h → L'.ct σ h) (x : ∀ c fs h, X c fs h → X' c fs h) : WS N' R' L' X' r := by
  cases r with
  | next σ h' => exact n _ _ h
  | brk σ h' => exact b _ _ h
  | cont σ h' => exact c _ _ h
  | ret e h' => exact t _ _ h
  | exc c fs σ h' => exact x _ _ _ h
  | stuck => exact h
end
section
variable {X : XC} {N : Slots → CH → Prop} {R : E → CH → Prop} {L : Lp} (T : Top) (φ : Phi) (σ : Slots) (h : CH)
variable (Q : E → CH → Prop) (B : Bool → CH → Prop)
theorem wp_op (o : Bop) (a b : CE) : WP X (evE T φ σ (.op o a b) h) Q = WP X (evE T φ σ a h) fun e h => WP X (evE T φ σ b h) fun e' h => WP X (ofOpt (see2 σ h e e' (bop o)) h) Q := by
  rw [evE_op]; simp only [WP_bind]
theorem wp_cmp (o : Cop) (a b : CE) : WP X (evE T φ σ (.cmp o a b) h) Q = WP X (evE T φ σ a h) fun e h => WP X (evE T φ σ b h) fun e' h => WP X (ofOpt (see2 σ h e e' (cop o)) h) fun c h => Q (.fz (.bl c)) h := by
  rw [evE_cmp]; simp only [WP_bind, WP_ok]
theorem wp_chain (o p : Cop) (a b c : CE) : WP X (evE T φ σ (.chain o p a b c) h) Q = WP X (evE T φ σ a h) fun e h => WP X (evE T φ σ b h) fun e' h => WP X (ofOpt (see2 σ h e e' (cop o)) h) fun d h =>
    (d = true → WP X (evE T φ σ c h) fun e'' h => WP X (ofOpt (see2 σ h e' e'' (cop p)) h) fun d h => Q (.fz (.bl d)) h) ∧ (d = false → Q (.fz (.bl false)) h) := by
  rw [evE_chain]; simp only [WP_bind, WP_ok]
  congr 1; funext e h; congr 1; funext e' h; congr 1; funext d h
  cases d <;> simp only [WP_bind, WP_ok, true_implies, false_implies, and_true, true_and, reduceCtorEq, Bool.false_eq_true]
theorem wp_call (f : Nm) (es : List CE) : WP X (evE T φ σ (.call f es 0) h) Q = WP X (evK T φ σ es h) fun us h => WP X (ended (φ (.fn f) us h)) Q := by
  rw [evE_call]; simp only [WP_bind]
theorem wp_bf (b : Bf) (es : List CE) : WP X (evE T φ σ (.bf b es) h) Q = WP X (evSs T φ σ es h) fun us h => WP X (ofOpt (bfun b us) h) Q := by
  rw [evE_bf]; simp only [WP_bind]
theorem wp_ix (o i : CE) : WP X (evE T φ σ (.ix o i) h) Q = WP X (evE T φ σ o h) fun e h => WP X (evE T φ σ i h) fun e' h => WP X (ofOpt (see2 σ h e e' getIx) h) fun w h => Q (.fz w) h := by
  rw [evE_ix]; simp only [WP_bind, WP_ok]
theorem wp_test (t : CT) : WP X (evE T φ σ (.test t) h) Q = WP X (evT T φ σ t h) fun b h => Q (.fz (.bl b)) h := by
  rw [evE_test]; simp only [WP_bind, WP_ok]
theorem wp_tup (es : List CE) : WP X (evE T φ σ (.tup es) h) Q = WP X (evK T φ σ es h) fun us h => Q (.fz (.tup us)) h := by
  rw [evE_tup]; simp only [WP_bind, WP_ok]
theorem wp_lst (es : List CE) : WP X (evE T φ σ (.lst es) h) Q = WP X (evK T φ σ es h) fun us h => Q (.own (.lst us)) h := by
  rw [evE_lst]; simp only [WP_bind, WP_ok]
theorem wp_comp (g : Tgt) (it : CI) (cs : List CT) (e : CE) : WP X (evE T φ σ (.comp g it cs e) h) Q = WP X (evI T φ false σ it h) fun xs h => WP X (goComp (compF T φ σ g cs e) xs h []) fun ys h => Q (.own (.lst ys)) h := by
  rw [evE_comp]; simp only [WP_bind, WP_ok]
theorem wp_tcmp (o : Cop) (a b : CE) : WP X (evT T φ σ (.cmp o a b) h) B = WP X (evE T φ σ a h) fun e h => WP X (evE T φ σ b h) fun e' h => WP X (ofOpt (see2 σ h e e' (cop o)) h) B := by
  rw [evT_cmp]; simp only [WP_bind]
theorem wp_tchain (o p : Cop) (a b c : CE) : WP X (evT T φ σ (.chain o p a b c) h) B = WP X (evE T φ σ a h) fun e h => WP X (evE T φ σ b h) fun e' h => WP X (ofOpt (see2 σ h e e' (cop o)) h) fun d h =>
    (d = true → WP X (evE T φ σ c h) fun e'' h => WP X (ofOpt (see2 σ h e' e'' (cop p)) h) B) ∧ (d = false → B false h) := by
  rw [evT_chain]; simp only [WP_bind]
  congr 1; funext e h; congr 1; funext e' h; congr 1; funext d h
  cases d <;> simp only [WP_bind, WP_ok, true_implies, false_implies, and_true, true_and, reduceCtorEq, Bool.false_eq_true]
theorem wp_not (t : CT) : WP X (evT T φ σ (.not t) h) B = WP X (evT T φ σ t h) fun b h => B (!b) h := by
  rw [evT_not]; simp only [WP_bind, WP_ok]
theorem wp_val (c : CE) : WP X (evT T φ σ (.val c) h) B = WP X (evE T φ σ c h) fun e h => WP X (ofOpt (e.see σ h) h) fun u h => WP X (ofOpt (tru u) h) B := by
  rw [evT_val]; unfold seen; simp only [WP_bind]
theorem wp_bv (c : CE) : WP X (evT T φ σ (.bv c) h) B = WP X (evE T φ σ c h) fun e h => WP X (match e with
    | .fz (.bl b) => .ok b h
    | _ => .stuck) B := by
  rw [evT_bv]; simp only [WP_bind] <;> rfl
theorem wp_notv (c : CE) : WP X (evT T φ σ (.notv c) h) B = WP X (evE T φ σ c h) fun e h => WP X (ofOpt (e.see σ h) h) fun u h => WP X (ofOpt (tru u) h) fun b h => B (!b) h := by
  rw [evT_notv]; unfold seen; simp only [WP_bind, WP_ok]
theorem wp_and (ts : List CT) : WP X (evT T φ σ (.and ts) h) B = WP X (evAnd T φ σ ts h) B := rfl
theorem wp_or (ts : List CT) : WP X (evT T φ σ (.or ts) h) B = WP X (evOr T φ σ ts h) B := rfl
theorem wp_and1 (c : CT) : WP X (evAnd T φ σ [c] h) B = WP X (evT T φ σ c h) B := by
  rw [evAnd_cons]; simp only [WP_bind]
  congr 1; funext b h; cases b <;> rfl
theorem wp_and2 (c d : CT) (r : List CT) : WP X (evAnd T φ σ (c :: d :: r) h) B = WP X (evT T φ σ c h) fun b h => (b = true → WP X (evAnd T φ σ (d :: r) h) B) ∧ (b = false → B false h) := by
  rw [evAnd_cons]; simp only [WP_bind]
  congr 1; funext b h; cases b <;> simp <;> exact Iff.rfl
theorem wp_or1 (c : CT) : WP X (evOr T φ σ [c] h) B = WP X (evT T φ σ c h) B := by
  rw [evOr_cons]; simp only [WP_bind]
  congr 1; funext b h; cases b <;> rfl
theorem wp_or2 (c d : CT) (r : List CT) : WP X (evOr T φ σ (c :: d :: r) h) B = WP X (evT T φ σ c h) fun b h => (b = true → B true h) ∧ (b = false → WP X (evOr T φ σ (d :: r) h) B) := by
  rw [evOr_cons]; simp only [WP_bind]
  congr 1; funext b h; cases b <;> simp <;> exact Iff.rfl
theorem wp_isty (a : CE) (ts : List Ty) : WP X (evE T φ σ (.isty a ts) h) Q = WP X (evE T φ σ a h) fun e h => WP X (ofOpt (e.see σ h) h) fun u h => WP X (ofOpt (isTys u ts) h) fun b h => Q (.fz (.bl b)) h := by
  rw [evE_isty]; unfold seen; simp only [WP_bind, WP_ok]
theorem wp_slice (o : CE) (lo hi : Option CE) : WP X (evE T φ σ (.slice o lo hi) h) Q = WP X (evE T φ σ o h) fun e h => WP X (evO T φ σ lo h) fun a h => WP X (evO T φ σ hi h) fun b h => WP X (ofOpt ((e.see σ h).bind fun u => sliced u a b) h) Q := by
  rw [evE_slice]; simp only [WP_bind]
theorem wp_bm (m : Bm) (o : CE) (es : List CE) : WP X (evE T φ σ (.bm m o es) h) Q = WP X (evE T φ σ o h) fun e h => WP X (ofOpt ((e.see σ h).bind (bmK m)) h) fun _ h => WP X (evSs T φ σ es h) fun us h => WP X (ofOpt ((e.see σ h).bind fun u => bmeth m u us) h) Q := by
  show WP X ((evE T φ σ o h).bind fun e h => (ofOpt ((e.see σ h).bind (bmK m)) h).bind fun _ h => (evSs T φ σ es h).bind fun us h => ofOpt ((e.see σ h).bind fun u => bmeth m u us) h) Q = _
  simp only [WP_bind]
theorem wp_ended (r : Res E) : WP X (ended r) Q = WP X r fun e h => (match e with
    | .loc _ => False
    | e => Q e h) := by
  cases r with
  | ok e h => cases e <;> rfl
  | exc c fs h => rfl
  | stuck => rfl
theorem wpK_nil (Rr : List U → CH → Prop) : WP X (evK T φ σ [] h) Rr = Rr [] h := rfl
theorem wpK_cons (c : CE) (r : List CE) (Rr : List U → CH → Prop) : WP X (evK T φ σ (c :: r) h) Rr = WP X (evE T φ σ c h) fun e h => WP X (e.keep h) fun u h => WP X (evK T φ σ r h) fun us h => Rr (u :: us) h := by
  rw [evK_cons]; simp only [WP_bind, WP_ok]
theorem wpS_nil (Rr : List U → CH → Prop) : WP X (evSs T φ σ [] h) Rr = Rr [] h := rfl
theorem wpS_cons (c : CE) (r : List CE) (Rr : List U → CH → Prop) : WP X (evSs T φ σ (c :: r) h) Rr = WP X (evE T φ σ c h) fun e h => WP X (evSs T φ σ r h) fun us h => WP X (ofOpt (e.see σ h) h) fun u h => Rr (u :: us) h := by
  rw [evSs_cons]; simp only [WP_bind, WP_ok]
theorem wpTs_nil : WP X (evTs T φ σ [] h) B = B true h := rfl
theorem wpTs_one (c : CT) : WP X (evTs T φ σ [c] h) B = WP X (evT T φ σ c h) B := by
  rw [evTs_cons]; simp only [WP_bind]
  congr 1; funext b h; cases b <;> rfl
theorem ws_nil : WS N R L X (evB T φ [] σ h) = N σ h := rfl
theorem ws_cons (s : CS) (r : List CS) : WS N R L X (evB T φ (s :: r) σ h) = WS (fun σ h => WS N R L X (evB T φ r σ h)) R L X (ev1 T φ s σ h) := by
  rw [evB_cons]
  cases ev1 T φ s σ h <;> rfl
theorem ws_set (i : Nat) (e : CE) : WS N R L X (ev1 T φ (.set i e) σ h) = WP X (evE T φ σ e h) fun r h => WP X (r.keep h) fun u h => WS N R L X (setS i (some (.val u)) σ fun σ => .next σ h) := by
  rw [ev1_set]; simp only [WS_st]
theorem ws_ret (e : CE) : WS N R L X (ev1 T φ (.ret e) σ h) = WP X (evE T φ σ e h) fun r h => (match r with
    | .loc _ => False
    | r => R r h) := by
  rw [ev1_ret]; simp only [WS_st]
  congr 1; funext e h; cases e <;> rfl
theorem ws_ite (c : CT) (a b : List CS) : WS N R L X (ev1 T φ (.ite c a b) σ h) = WP X (evT T φ σ c h) fun d h => (d = true → WS N R L X (evB T φ a σ h)) ∧ (d = false → WS N R L X (evB T φ b σ h)) := by
  rw [ev1_ite]; simp only [WS_st]
  congr 1; funext d h; cases d <;> simp
theorem ws_for (g : Tgt) (it : CI) (b : List CS) : WS N R L X (ev1 T φ (.for_ g it b) σ h) = WP X (evI T φ true σ it h) fun xs h => WS N R L X (goFor g (fun σ h => evB T φ b σ h) xs σ h) := by
  rw [ev1_for]; simp only [WS_st]
end

section
variable {X : XC} {N : Slots → CH → Prop} {R : E → CH → Prop} {L : Lp} (T : Top) (φ : Phi) (σ : Slots) (h : CH)
theorem ws_own (i : Nat) (e : CE) : WS N R L X (ev1 T φ (.own i e) σ h) = WP X (evE T φ σ e h) fun r h => (match r with
    | .own u => WS N R L X (setS i (some (.own u)) σ fun σ => .next σ h)
    | _ => False) := by
  rw [ev1_own, WS_st]; congr 1; funext r h; cases r <;> rfl
theorem ws_put (g : Tgt) (e : CE) : WS N R L X (ev1 T φ (.put g e) σ h) = WP X (evE T φ σ e h) fun r h => WP X (r.keep h) fun u h => (∃ σ', bindT g u σ = some σ' ∧ N σ' h) := by
  rw [ev1_put, WS_st]; congr 1; funext r h; rw [WS_st]; congr 1; funext u h
  cases hb : bindT g u σ with
  | none => simp [WS, WP]
  | some σ' => simp [WS, WP]
theorem ws_expr (e : CE) : WS N R L X (ev1 T φ (.expr e) σ h) = WP X (evE T φ σ e h) fun _ h => N σ h := by
  rw [ev1_expr, WS_st]; congr 1
theorem ws_retv (i : Nat) : WS N R L X (ev1 T φ (.retv i) σ h) = (match σ[i]? with
    | some (some (.own u)) => R (.own u) h
    | some (some (.val u)) => R (.fz u) h
    | _ => False) := by
  rw [ev1_retv]
  split <;> first | rfl | (split <;> first | rfl | (simp_all [WS, WP]))
theorem ws_ret0 : WS N R L X (ev1 T φ .ret0 σ h) = R (.fz .non) h := rfl
theorem ws_brk : WS N R L X (ev1 T φ .brk σ h) = L.bk σ h := rfl
theorem ws_cont : WS N R L X (ev1 T φ .cont σ h) = L.ct σ h := rfl
theorem ws_pass : WS N R L X (ev1 T φ .pass σ h) = N σ h := rfl
theorem ws_frz (i : Nat) : WS N R L X (ev1 T φ (.frz i) σ h) = (match σ[i]? with
    | some (some (.own u)) => N (σ.set i (some (.val u))) h
    | some (some (.val u)) => N σ h
    | _ => False) := by
  rw [ev1_frz]
  split <;> first | rfl | (split <;> first | rfl | (simp_all [WS, WP]))
theorem ws_share (i : Nat) (xs : List U) : WS N R L X (ev1 T φ (.share i) σ (some xs)) = (match σ[i]? with
    | some (some (.own u)) => N (σ.set i (some (.val (.ref xs.length)))) (some (xs ++ [u]))
    | _ => False) := by
  rw [ev1_share]
  cases hx : σ[i]? with
  | none => rfl
  | some o =>
    cases o with
    | none => rfl
    | some y => cases y <;> rfl
theorem ws_mut (d : Option Nat) (i : Nat) (m : Mm) (es : List CE) : WS N R L noX (ev1 T φ (.mut d i m es) σ h) = WP noX (evK T φ σ es h) fun us h => (∃ u r u', σ[i]? = some (some (.own u)) ∧ mmeth m u us = some (r, u') ∧ (match d with
    | none => N (σ.set i (some (.own u'))) h
    | some d => WS N R L noX (setS d (some (.val r)) (σ.set i (some (.own u'))) fun σ => .next σ h))) := by
  rw [ev1_mut]
  cases evK T φ σ es h with
  | stuck => rfl
  | exc c fs h => rfl
  | ok us h =>
    rw [WP_ok]
    cases hx : σ[i]? with
    | none => simp [WS, WP]
    | some o =>
      cases o with
      | none => simp [WS, WP]
      | some y =>
        cases y with
        | val u => simp [WS, WP]
        | own u =>
          cases hm : mmeth m u us with
          | none => simp [hm, WS, WP]
          | some p =>
            obtain ⟨r, u'⟩ := p
            cases d <;> simp [hm, WS, WP] <;> exact ⟨fun q => ⟨_, _, ⟨rfl, rfl⟩, q⟩, fun ⟨_, _, ⟨e1, e2⟩, q⟩ => by subst e1 e2; exact q⟩
theorem ws_ix (o i e : CE) : WS N R L X (ev1 T φ (.ix o i e) σ h) = WP X (evE T φ σ e h) fun r h => WP X (r.keep h) fun v h => WP X (evE T φ σ o h) fun x h => WP X (evE T φ σ i h) fun y h => WP X (y.keep h) fun k h => WS N R L X (chg σ h x (fun u => setIx u k v) fun σ h => .next σ h) := by
  rw [ev1_ix, WS_st]
  congr 1; funext r h; rw [WS_st]
  congr 1; funext v h; rw [WS_st]
  congr 1; funext x h; rw [WS_st]
  congr 1; funext y h; rw [WS_st]
theorem ws_aug (i : Nat) (p : Bop) (e : CE) : WS N R L X (ev1 T φ (.aug i p e) σ h) = (∃ a, σ[i]? = some (some (.val (.int a))) ∧ WP X (evE T φ σ e h) fun r h => WP X (ofOpt (r.see σ h) h) fun v h => WP X (ofOpt (augI p a v) h) fun c h => WS N R L X (setS i (some (.val (.int c))) σ fun σ => .next σ h)) := by
  rw [ev1_aug]
  cases hx : σ[i]? with
  | none => simp [WS, WP]
  | some o =>
    cases o with
    | none => simp [WS, WP]
    | some y =>
      cases y with
      | own u => simp [WS, WP]
      | val u =>
        cases u <;> first | (simp [WS, WP]; done) | skip
        rename_i a
        simp only [Option.some.injEq, Sl.val.injEq, U.int.injEq, exists_eq_left']
        unfold seen
        simp only [WS_st, WP_bind]
end
end Z
def WP {α : Type} (X : XC) (r : Res α) (Q : α → CH → Prop) (_ : Du X := ⟨⟩) (_ : Du Q := ⟨⟩) : Prop := Z.WP X r Q
/-- N: behind; R: told; L: break, continue; X: refused -/
def WS (N : Slots → CH → Prop) (R : E → CH → Prop) (L : Lp) (X : XC) (r : RS) (_ : Du N := ⟨⟩) (_ : Du R := ⟨⟩) (_ : Du L := ⟨⟩) (_ : Du X := ⟨⟩) : Prop := Z.WS N R L X r
section
variable {α β : Type} {X : XC} {N : Slots → CH → Prop} {R : E → CH → Prop} {L : Lp}
@[simp] theorem WP_ok (a : α) (h : CH) (Q : α → CH → Prop) : WP X (.ok a h) Q = Q a h := Z.WP_ok ..
@[simp] theorem WP_exc (c : Nm) (fs : List U) (h : CH) (Q : α → CH → Prop) : WP X (.exc c fs h) Q = X c fs h := Z.WP_exc ..
@[simp] theorem WP_stuck (Q : α → CH → Prop) : WP X (.stuck) Q = False := Z.WP_stuck ..
@[simp ↓] theorem WP_bind (r : Res α) (f : α → CH → Res β) (Q : β → CH → Prop) : WP X (r.bind f) Q = WP X r fun a h => WP X (f a h) Q := Z.WP_bind ..
@[simp] theorem WP_ofOpt (o : Option α) (h : CH) (Q : α → CH → Prop) : WP X (ofOpt o h) Q = ∃ a, o = some a ∧ Q a h := Z.WP_ofOpt ..
theorem WP_imp {r : Res α} {Q Q' : α → CH → Prop} (h : WP X r Q) (q : ∀ a h, Q a h → Q' a h) : WP X r Q' := by
  cases r with
  | ok a h' => exact q a h' h
  | exc c fs h' => exact h
  | stuck => exact h
theorem WP_of {r : Res α} {a : α} {h : CH} {Q : α → CH → Prop} (e : r = .ok a h) (q : Q a h) : WP X r Q := by rw [e]; exact q
theorem WP_get {r : Res α} {Q : α → CH → Prop} (h : WP noX r Q) : ∃ a h', r = .ok a h' ∧ Q a h' := by
  cases r with
  | ok a h' => exact ⟨a, h', rfl, h⟩
  | exc c fs h' => exact False.elim h
  | stuck => exact False.elim h
@[simp] theorem WS_next (σ : Slots) (h : CH) : WS N R L X (.next σ h) = N σ h := Z.WS_next ..
@[simp] theorem WS_brk (σ : Slots) (h : CH) : WS N R L X (.brk σ h) = L.bk σ h := Z.WS_brk ..
@[simp] theorem WS_cont (σ : Slots) (h : CH) : WS N R L X (.cont σ h) = L.ct σ h := Z.WS_cont ..
@[simp] theorem WS_ret (e : E) (h : CH) : WS N R L X (.ret e h) = R e h := Z.WS_ret ..
@[simp] theorem WS_exc (c : Nm) (fs : List U) (σ : Slots) (h : CH) : WS N R L X (.exc c fs σ h) = X c fs h := Z.WS_exc ..
@[simp] theorem WS_stuck : WS N R L X .stuck = False := Z.WS_stuck ..
@[simp ↓] theorem WS_st (r : Res α) (σ : Slots) (f : α → CH → RS) : WS N R L X (r.st σ f) = WP X r fun a h => WS N R L X (f a h) := Z.WS_st ..
theorem WS_imp {N' : Slots → CH → Prop} {R' : E → CH → Prop} {L' : Lp} {X' : XC} {r : RS} (h : WS N R L X r) (n : ∀ σ h, N σ h → N' σ h) (t : ∀ e h, R e h → R' e h) (b : ∀ σ h, L.bk σ h → L'.bk σ h) (c : ∀ σ h, L.ct σ h → L'.ct σ h) (x : ∀ c fs h, X c fs h → X' c fs h) : WS N' R' L' X' r := by
  cases r with
  | next σ h' => exact n _ _ h
  | brk σ h' => exact b _ _ h
  | cont σ h' => exact c _ _ h
  | ret e h' => exact t _ _ h
  | exc c fs σ h' => exact x _ _ _ h
  | stuck => exact h
end
section
variable {X : XC} {N : Slots → CH → Prop} {R : E → CH → Prop} {L : Lp} (T : Top) (φ : Phi) (σ : Slots) (h : CH)
variable (Q : E → CH → Prop) (B : Bool → CH → Prop)
@[simp ↓] theorem wp_op (o : Bop) (a b : CE) : WP X (evE T φ σ (.op o a b) h) Q = WP X (evE T φ σ a h) fun e h => WP X (evE T φ σ b h) fun e' h => WP X (ofOpt (see2 σ h e e' (bop o)) h) Q := Z.wp_op ..
@[simp ↓] theorem wp_cmp (o : Cop) (a b : CE) : WP X (evE T φ σ (.cmp o a b) h) Q = WP X (evE T φ σ a h) fun e h => WP X (evE T φ σ b h) fun e' h => WP X (ofOpt (see2 σ h e e' (cop o)) h) fun c h => Q (.fz (.bl c)) h := Z.wp_cmp ..
@[simp ↓] theorem wp_chain (o p : Cop) (a b c : CE) : WP X (evE T φ σ (.chain o p a b c) h) Q = WP X (evE T φ σ a h) fun e h => WP X (evE T φ σ b h) fun e' h => WP X (ofOpt (see2 σ h e e' (cop o)) h) fun d h =>
    (d = true → WP X (evE T φ σ c h) fun e'' h => WP X (ofOpt (see2 σ h e' e'' (cop p)) h) fun d h => Q (.fz (.bl d)) h) ∧ (d = false → Q (.fz (.bl false)) h) := Z.wp_chain ..
@[simp ↓] theorem wp_call (f : Nm) (es : List CE) : WP X (evE T φ σ (.call f es 0) h) Q = WP X (evK T φ σ es h) fun us h => WP X (ended (φ (.fn f) us h)) Q := Z.wp_call ..
@[simp ↓] theorem wp_bf (b : Bf) (es : List CE) : WP X (evE T φ σ (.bf b es) h) Q = WP X (evSs T φ σ es h) fun us h => WP X (ofOpt (bfun b us) h) Q := Z.wp_bf ..
@[simp ↓] theorem wp_ix (o i : CE) : WP X (evE T φ σ (.ix o i) h) Q = WP X (evE T φ σ o h) fun e h => WP X (evE T φ σ i h) fun e' h => WP X (ofOpt (see2 σ h e e' getIx) h) fun w h => Q (.fz w) h := Z.wp_ix ..
@[simp ↓] theorem wp_test (t : CT) : WP X (evE T φ σ (.test t) h) Q = WP X (evT T φ σ t h) fun b h => Q (.fz (.bl b)) h := Z.wp_test ..
@[simp ↓] theorem wp_tup (es : List CE) : WP X (evE T φ σ (.tup es) h) Q = WP X (evK T φ σ es h) fun us h => Q (.fz (.tup us)) h := Z.wp_tup ..
@[simp ↓] theorem wp_lst (es : List CE) : WP X (evE T φ σ (.lst es) h) Q = WP X (evK T φ σ es h) fun us h => Q (.own (.lst us)) h := Z.wp_lst ..
theorem wp_comp (g : Tgt) (it : CI) (cs : List CT) (e : CE) : WP X (evE T φ σ (.comp g it cs e) h) Q = WP X (evI T φ false σ it h) fun xs h => WP X (goComp (compF T φ σ g cs e) xs h []) fun ys h => Q (.own (.lst ys)) h := Z.wp_comp ..
@[simp ↓] theorem wp_tcmp (o : Cop) (a b : CE) : WP X (evT T φ σ (.cmp o a b) h) B = WP X (evE T φ σ a h) fun e h => WP X (evE T φ σ b h) fun e' h => WP X (ofOpt (see2 σ h e e' (cop o)) h) B := Z.wp_tcmp ..
@[simp ↓] theorem wp_tchain (o p : Cop) (a b c : CE) : WP X (evT T φ σ (.chain o p a b c) h) B = WP X (evE T φ σ a h) fun e h => WP X (evE T φ σ b h) fun e' h => WP X (ofOpt (see2 σ h e e' (cop o)) h) fun d h =>
    (d = true → WP X (evE T φ σ c h) fun e'' h => WP X (ofOpt (see2 σ h e' e'' (cop p)) h) B) ∧ (d = false → B false h) := Z.wp_tchain ..
@[simp ↓] theorem wp_not (t : CT) : WP X (evT T φ σ (.not t) h) B = WP X (evT T φ σ t h) fun b h => B (!b) h := Z.wp_not ..
@[simp ↓] theorem wp_val (c : CE) : WP X (evT T φ σ (.val c) h) B = WP X (evE T φ σ c h) fun e h => WP X (ofOpt (e.see σ h) h) fun u h => WP X (ofOpt (tru u) h) B := Z.wp_val ..
@[simp ↓] theorem wp_bv (c : CE) : WP X (evT T φ σ (.bv c) h) B = WP X (evE T φ σ c h) fun e h => WP X (match e with
    | .fz (.bl b) => .ok b h
    | _ => .stuck) B := Z.wp_bv ..
@[simp ↓] theorem wp_notv (c : CE) : WP X (evT T φ σ (.notv c) h) B = WP X (evE T φ σ c h) fun e h => WP X (ofOpt (e.see σ h) h) fun u h => WP X (ofOpt (tru u) h) fun b h => B (!b) h := Z.wp_notv ..
@[simp ↓] theorem wp_and (ts : List CT) : WP X (evT T φ σ (.and ts) h) B = WP X (evAnd T φ σ ts h) B := Z.wp_and ..
@[simp ↓] theorem wp_or (ts : List CT) : WP X (evT T φ σ (.or ts) h) B = WP X (evOr T φ σ ts h) B := Z.wp_or ..
@[simp ↓] theorem wp_and1 (c : CT) : WP X (evAnd T φ σ [c] h) B = WP X (evT T φ σ c h) B := Z.wp_and1 ..
@[simp ↓] theorem wp_and2 (c d : CT) (r : List CT) : WP X (evAnd T φ σ (c :: d :: r) h) B = WP X (evT T φ σ c h) fun b h => (b = true → WP X (evAnd T φ σ (d :: r) h) B) ∧ (b = false → B false h) := Z.wp_and2 ..
@[simp ↓] theorem wp_or1 (c : CT) : WP X (evOr T φ σ [c] h) B = WP X (evT T φ σ c h) B := Z.wp_or1 ..
@[simp ↓] theorem wp_or2 (c d : CT) (r : List CT) : WP X (evOr T φ σ (c :: d :: r) h) B = WP X (evT T φ σ c h) fun b h => (b = true → B true h) ∧ (b = false → WP X (evOr T φ σ (d :: r) h) B) := Z.wp_or2 ..
@[simp ↓] theorem wp_isty (a : CE) (ts : List Ty) : WP X (evE T φ σ (.isty a ts) h) Q = WP X (evE T φ σ a h) fun e h => WP X (ofOpt (e.see σ h) h) fun u h => WP X (ofOpt (isTys u ts) h) fun b h => Q (.fz (.bl b)) h := Z.wp_isty ..
@[simp ↓] theorem wp_slice (o : CE) (lo hi : Option CE) : WP X (evE T φ σ (.slice o lo hi) h) Q = WP X (evE T φ σ o h) fun e h => WP X (evO T φ σ lo h) fun a h => WP X (evO T φ σ hi h) fun b h => WP X (ofOpt ((e.see σ h).bind fun u => sliced u a b) h) Q := Z.wp_slice ..
@[simp ↓] theorem wp_bm (m : Bm) (o : CE) (es : List CE) : WP X (evE T φ σ (.bm m o es) h) Q = WP X (evE T φ σ o h) fun e h => WP X (ofOpt ((e.see σ h).bind (bmK m)) h) fun _ h => WP X (evSs T φ σ es h) fun us h => WP X (ofOpt ((e.see σ h).bind fun u => bmeth m u us) h) Q := Z.wp_bm ..
@[simp ↓] theorem wp_ended (r : Res E) : WP X (ended r) Q = WP X r fun e h => (match e with
    | .loc _ => False
    | e => Q e h) := Z.wp_ended ..
@[simp ↓] theorem wpK_nil (Rr : List U → CH → Prop) : WP X (evK T φ σ [] h) Rr = Rr [] h := Z.wpK_nil ..
@[simp ↓] theorem wpK_cons (c : CE) (r : List CE) (Rr : List U → CH → Prop) : WP X (evK T φ σ (c :: r) h) Rr = WP X (evE T φ σ c h) fun e h => WP X (e.keep h) fun u h => WP X (evK T φ σ r h) fun us h => Rr (u :: us) h := Z.wpK_cons ..
@[simp ↓] theorem wpS_nil (Rr : List U → CH → Prop) : WP X (evSs T φ σ [] h) Rr = Rr [] h := Z.wpS_nil ..
@[simp ↓] theorem wpS_cons (c : CE) (r : List CE) (Rr : List U → CH → Prop) : WP X (evSs T φ σ (c :: r) h) Rr = WP X (evE T φ σ c h) fun e h => WP X (evSs T φ σ r h) fun us h => WP X (ofOpt (e.see σ h) h) fun u h => Rr (u :: us) h := Z.wpS_cons ..
@[simp ↓] theorem wpTs_nil : WP X (evTs T φ σ [] h) B = B true h := Z.wpTs_nil ..
@[simp ↓] theorem wpTs_one (c : CT) : WP X (evTs T φ σ [c] h) B = WP X (evT T φ σ c h) B := Z.wpTs_one ..
@[simp ↓] theorem ws_nil : WS N R L X (evB T φ [] σ h) = N σ h := Z.ws_nil ..
@[simp ↓] theorem ws_cons (s : CS) (r : List CS) : WS N R L X (evB T φ (s :: r) σ h) = WS (fun σ h => WS N R L X (evB T φ r σ h)) R L X (ev1 T φ s σ h) := Z.ws_cons ..
@[simp ↓] theorem ws_set (i : Nat) (e : CE) : WS N R L X (ev1 T φ (.set i e) σ h) = WP X (evE T φ σ e h) fun r h => WP X (r.keep h) fun u h => WS N R L X (setS i (some (.val u)) σ fun σ => .next σ h) := Z.ws_set ..
@[simp ↓] theorem ws_ret (e : CE) : WS N R L X (ev1 T φ (.ret e) σ h) = WP X (evE T φ σ e h) fun r h => (match r with
    | .loc _ => False
    | r => R r h) := Z.ws_ret ..
@[simp ↓] theorem ws_ite (c : CT) (a b : List CS) : WS N R L X (ev1 T φ (.ite c a b) σ h) = WP X (evT T φ σ c h) fun d h => (d = true → WS N R L X (evB T φ a σ h)) ∧ (d = false → WS N R L X (evB T φ b σ h)) := Z.ws_ite ..
theorem ws_for (g : Tgt) (it : CI) (b : List CS) : WS N R L X (ev1 T φ (.for_ g it b) σ h) = WP X (evI T φ true σ it h) fun xs h => WS N R L X (goFor g (fun σ h => evB T φ b σ h) xs σ h) := Z.ws_for ..
end

section
variable {X : XC} {N : Slots → CH → Prop} {R : E → CH → Prop} {L : Lp} (T : Top) (φ : Phi) (σ : Slots) (h : CH)
@[simp ↓] theorem ws_own (i : Nat) (e : CE) : WS N R L X (ev1 T φ (.own i e) σ h) = WP X (evE T φ σ e h) fun r h => (match r with
    | .own u => WS N R L X (setS i (some (.own u)) σ fun σ => .next σ h)
    | _ => False) := Z.ws_own ..
@[simp ↓] theorem ws_put (g : Tgt) (e : CE) : WS N R L X (ev1 T φ (.put g e) σ h) = WP X (evE T φ σ e h) fun r h => WP X (r.keep h) fun u h => (∃ σ', bindT g u σ = some σ' ∧ N σ' h) := Z.ws_put ..
@[simp ↓] theorem ws_expr (e : CE) : WS N R L X (ev1 T φ (.expr e) σ h) = WP X (evE T φ σ e h) fun _ h => N σ h := Z.ws_expr ..
@[simp ↓] theorem ws_retv (i : Nat) : WS N R L X (ev1 T φ (.retv i) σ h) = (match σ[i]? with
    | some (some (.own u)) => R (.own u) h
    | some (some (.val u)) => R (.fz u) h
    | _ => False) := Z.ws_retv ..
@[simp ↓] theorem ws_ret0 : WS N R L X (ev1 T φ .ret0 σ h) = R (.fz .non) h := Z.ws_ret0 ..
@[simp ↓] theorem ws_brk : WS N R L X (ev1 T φ .brk σ h) = L.bk σ h := Z.ws_brk ..
@[simp ↓] theorem ws_cont : WS N R L X (ev1 T φ .cont σ h) = L.ct σ h := Z.ws_cont ..
@[simp ↓] theorem ws_pass : WS N R L X (ev1 T φ .pass σ h) = N σ h := Z.ws_pass ..
@[simp ↓] theorem ws_frz (i : Nat) : WS N R L X (ev1 T φ (.frz i) σ h) = (match σ[i]? with
    | some (some (.own u)) => N (σ.set i (some (.val u))) h
    | some (some (.val u)) => N σ h
    | _ => False) := Z.ws_frz ..
@[simp ↓] theorem ws_share (i : Nat) (xs : List U) : WS N R L X (ev1 T φ (.share i) σ (some xs)) = (match σ[i]? with
    | some (some (.own u)) => N (σ.set i (some (.val (.ref xs.length)))) (some (xs ++ [u]))
    | _ => False) := Z.ws_share ..
@[simp ↓] theorem ws_mut (d : Option Nat) (i : Nat) (m : Mm) (es : List CE) : WS N R L noX (ev1 T φ (.mut d i m es) σ h) = WP noX (evK T φ σ es h) fun us h => (∃ u r u', σ[i]? = some (some (.own u)) ∧ mmeth m u us = some (r, u') ∧ (match d with
    | none => N (σ.set i (some (.own u'))) h
    | some d => WS N R L noX (setS d (some (.val r)) (σ.set i (some (.own u'))) fun σ => .next σ h))) := Z.ws_mut ..
@[simp ↓] theorem ws_ix (o i e : CE) : WS N R L X (ev1 T φ (.ix o i e) σ h) = WP X (evE T φ σ e h) fun r h => WP X (r.keep h) fun v h => WP X (evE T φ σ o h) fun x h => WP X (evE T φ σ i h) fun y h => WP X (y.keep h) fun k h => WS N R L X (chg σ h x (fun u => setIx u k v) fun σ h => .next σ h) := Z.ws_ix ..
@[simp ↓] theorem ws_aug (i : Nat) (p : Bop) (e : CE) : WS N R L X (ev1 T φ (.aug i p e) σ h) = (∃ a, σ[i]? = some (some (.val (.int a))) ∧ WP X (evE T φ σ e h) fun r h => WP X (ofOpt (r.see σ h) h) fun v h => WP X (ofOpt (augI p a v) h) fun c h => WS N R L X (setS i (some (.val (.int c))) σ fun σ => .next σ h)) := Z.ws_aug ..
end

/-! ### numbers -/
@[simp] theorem small_lit (n : Nat) (h : n < 18446744073709551616) : small (no_index (OfNat.ofNat n : Int)) = true := by
  unfold small
  simp only [decide_eq_true_eq]
  show ((n : Nat) : Int).natAbs < _
  omega
@[simp] theorem small_0 : small 0 = true := by decide
@[simp] theorem small_1 : small 1 = true := by decide
@[simp] theorem bop_mul (i j : Int) : bop .mul (.int i) (.int j) = if (small i || small j) = true then some (.fz (.int (i * j))) else none := rfl
theorem bop_mod {i j : Int} (h : 0 < j) : bop .mod (.int i) (.int j) = some (.fz (.int (i % j))) := mod_int h
@[simp] theorem bop_mod_lit (i : Int) (n : Nat) (h : 0 < n) : bop .mod (.int i) (.int (no_index (OfNat.ofNat n : Int))) = some (.fz (.int (i % (OfNat.ofNat n : Int)))) := by
  refine mod_int ?_
  show (0 : Int) < (n : Int)
  omega
@[simp] theorem evE_dct (T : Top) (φ : Phi) (σ : Slots) (h : CH) : evE T φ σ (.dct [] []) h = .ok (.own (.dct [])) h := rfl
@[simp] theorem cop_ne_bl (a b : Bool) : cop .ne (.bl a) (.bl b) = some (!(a == b)) := rfl
@[simp] theorem cop_is_non (u : U) : cop .is_ u .non = some (isNon u) := by cases u <;> rfl
@[simp] theorem cop_isnot_non (u : U) : cop .isnot u .non = some (!isNon u) := by cases u <;> rfl
@[simp] theorem cop_is_bl (a b : Bool) : cop .is_ (.bl a) (.bl b) = some (decide (a = b)) := rfl
@[simp] theorem cop_isnot_bl (a b : Bool) : cop .isnot (.bl a) (.bl b) = some (!decide (a = b)) := rfl
@[simp] theorem isNon_non : isNon .non = true := rfl
@[simp] theorem isNon_int (i : Int) : isNon (.int i) = false := rfl
@[simp] theorem isNon_tup (i : List U) : isNon (.tup i) = false := rfl
@[simp] theorem isNon_lst (i : List U) : isNon (.lst i) = false := rfl
@[simp] theorem isNon_bl (i : Bool) : isNon (.bl i) = false := rfl
@[simp] theorem isNon_str (i : Str) : isNon (.str i) = false := rfl
@[simp] theorem isTys_nil (u : U) : isTys u [] = some false := rfl
@[simp] theorem isTys_one (u : U) (t : Ty) : isTys u [t] = (knd u).map fun k => knTy k t := by
  unfold isTys isTy
  cases knd u with
  | none => rfl
  | some k => cases h : knTy k t <;> simp [h, isTys]
@[simp] theorem knd_int (i : Int) : knd (.int i) = some .int := rfl
@[simp] theorem knd_bl (i : Bool) : knd (.bl i) = some .bool := rfl
@[simp] theorem knd_str (i : Str) : knd (.str i) = some .str := rfl
@[simp] theorem knd_tup (i : List U) : knd (.tup i) = some .tuple := rfl
@[simp] theorem knd_lst (i : List U) : knd (.lst i) = some .list := rfl
@[simp] theorem knd_dct (i : List (U × U)) : knd (.dct i) = some .dict := rfl
@[simp] theorem knd_non : knd .non = some .non := rfl
@[simp] theorem tru_bl (b : Bool) : tru (.bl b) = some b := rfl
@[simp] theorem cop_eq_int (i j : Int) : cop .eq (.int i) (.int j) = some (decide (i = j)) := rfl
@[simp] theorem cop_ne_int (i j : Int) : cop .ne (.int i) (.int j) = some (!decide (i = j)) := rfl
/-- a block cut in two by what holds between -/
theorem WS_cut {T : Top} {φ : Phi} {X : XC} {N : Slots → CH → Prop} {R : E → CH → Prop} {L : Lp} {b : List CS} (k : Nat) (M : Slots → CH → Prop) : ∀ {σ : Slots} {h : CH}, WS M R L X (evB T φ (b.take k) σ h) → (∀ σ h, M σ h → WS N R L X (evB T φ (b.drop k) σ h)) → WS N R L X (evB T φ b σ h) := by
  induction k generalizing b with
  | zero => exact fun w q => q _ _ w
  | succ k ih =>
    cases b with
    | nil => exact fun w q => q _ _ w
    | cons s r =>
      intro σ h w q
      rw [List.take_succ_cons, ws_cons] at w
      rw [List.drop_succ_cons] at q
      rw [ws_cons]
      refine WS_imp w (fun σ h w => ih w q) (fun _ _ z => z) (fun _ _ z => z) (fun _ _ z => z) fun _ _ _ z => z
/-- a def that is called -/
theorem WP_fn {P : Prog} {n : Nat} {f : Nm} {d : CDef} {us : List U} {h : CH} {X : XC} {Q : E → CH → Prop} (e : P.defs (.fn f) = some d) (hl : us.length = d.params)
    (w : WS (fun _ h => Q (.fz .non) h) Q noL X (evB P.toTop (phi P n) d.body (args d us) h)) : WP X (phi P (n + 1) (.fn f) us h) Q := by
  have e1 : phi P (n + 1) (.fn f) us h = runDef P.toTop (phi P n) d us h := by simp only [phi, e]
  rw [e1]
  unfold runDef
  rw [if_pos hl]
  revert w
  cases evB P.toTop (phi P n) d.body (args d us) h <;> exact fun w => w
/-- a for -/
theorem WS_for {X : XC} {N : Slots → CH → Prop} {R : E → CH → Prop} {L : Lp} {g : Tgt} {f : Slots → CH → RS} (I : List U → Slots → CH → Prop) : ∀ {xs : List U} {σ : Slots} {h : CH}, I xs σ h →
    (∀ x r σ h, I (x :: r) σ h → ∃ σ1, bindT g x σ = some σ1 ∧ WS (I r) R ⟨N, I r⟩ X (f σ1 h)) → (∀ σ h, I [] σ h → N σ h) → WS N R L X (goFor g f xs σ h)
  | [], σ, h, i, st, fin => fin σ h i
  | x :: r, σ, h, i, st, fin => by
    obtain ⟨σ1, e1, w⟩ := st x r σ h i
    simp only [goFor, e1]
    revert w
    cases f σ1 h with
    | next σ2 h2 => exact fun w => WS_for I w st fin
    | cont σ2 h2 => exact fun w => WS_for I w st fin
    | brk σ2 h2 => exact fun w => w
    | ret e h2 => exact fun w => w
    | exc c fs σ2 h2 => exact fun w => w
    | stuck => exact fun w => w
/-- a comprehension: each turn gives what G tells (none: left out) -/
theorem WP_goComp {X : XC} {f : U → CH → Res (Option U)} (I : CH → Prop) (G : U → Option U) {Q : List U → CH → Prop} : ∀ {xs : List U} {h : CH} {acc : List U}, I h → (∀ x ∈ xs, ∀ h, I h → WP noX (f x h) fun o h => o = G x ∧ I h) →
    (∀ h, I h → Q (acc ++ xs.filterMap G) h) → WP X (goComp f xs h acc) Q
  | [], h, acc, i, st, fin => by
    have := fin h i
    simpa [goComp] using this
  | x :: r, h, acc, i, st, fin => by
    have w := st x List.mem_cons_self h i
    unfold goComp
    cases hf : f x h with
    | stuck => rw [hf] at w; exact False.elim w
    | exc c fs h2 => rw [hf] at w; exact False.elim w
    | ok o h2 =>
      rw [hf] at w
      obtain ⟨e, i2⟩ : o = G x ∧ I h2 := w
      subst e
      cases hG : G x with
      | none =>
        refine WP_goComp I G i2 (fun y hy => st y (List.mem_cons_of_mem _ hy)) fun h3 i3 => ?_
        have := fin h3 i3
        rwa [List.filterMap_cons, hG] at this
      | some u =>
        refine WP_goComp I G i2 (fun y hy => st y (List.mem_cons_of_mem _ hy)) fun h3 i3 => ?_
        have := fin h3 i3
        rw [List.filterMap_cons, hG] at this
        simpa using this
end Mi
namespace Mi
open PySem (Str)
/-! ### texts by their codes -/
def T (l : List Nat) : Str := ⟨l.toArray⟩
@[simp] theorem T_cps (l : List Nat) : (T l).cps.toList = l := by simp [T]
@[simp] theorem T_len (l : List Nat) : (T l).length = l.length := by simp [T, PySem.Str.length]
theorem T_eta (w : Str) : w = T w.cps.toList := by cases w; simp [T]
theorem T_inj {a b : List Nat} (h : T a = T b) : a = b := by
  have := congrArg (fun w : Str => w.cps.toList) h
  simpa using this
@[simp] theorem T_eq {a b : List Nat} : T a = T b ↔ a = b := ⟨T_inj, fun h => by rw [h]⟩
theorem T_beq (a b : List Nat) : (T a == T b) = decide (a = b) := by
  by_cases h : a = b
  · subst h; simp
  · have : ¬ T a = T b := fun e => h (T_inj e)
    simp [h]
theorem T_append (a b : List Nat) : T a ++ T b = T (a ++ b) := by
  show (⟨a.toArray ++ b.toArray⟩ : Str) = _
  simp [T]
/-- a text's codes are such, at most so many -/
def okL (k : Nat) (l : List Nat) : Prop := l.length ≤ k ∧ ∀ c ∈ l, c < 0x110000
theorem okL.str {k : Nat} {l : List Nat} (h : okL k l) : strOk (T l) = true := by
  unfold strOk
  rw [← Array.all_toList]
  simp only [T_cps, List.all_eq_true, decide_eq_true_eq]
  exact h.2
theorem okL.dat {k n : Nat} {l : List Nat} (h : okL k l) : dat n (.str (T l)) = true := by
  cases n <;> exact h.str
theorem bop_addT {a b : List Nat} (h : a.length + b.length ≤ line) : bop .add (.str (T a)) (.str (T b)) = some (.fz (.str (T (a ++ b)))) := by
  show (if (T a).length + (T b).length ≤ line then some (E.fz (.str (T a ++ T b))) else none) = _
  rw [T_len, T_len, if_pos h, T_append]
theorem slicedT {l : List Nat} {lo hi : Option Int} (h : l.length ≤ line) : sliced (.str (T l)) lo hi = some (.fz (.str (T (cut l lo hi)))) := by
  show (if (T l).length ≤ line then some (E.fz (.str ⟨(cut (T l).cps.toList lo hi).toArray⟩)) else none) = _
  rw [T_len, if_pos h, T_cps]
  rfl
theorem getIxT {l : List Nat} {i : Int} (h : l.length ≤ line) : getIx (.str (T l)) (.int i) = (L2.atI l i).map fun c => .str (T [c]) := by
  show (if (T l).length ≤ line then (L2.atI (T l).cps.toList i).map fun c => U.str ⟨#[c]⟩ else none) = _
  rw [T_len, if_pos h, T_cps]
  rfl
theorem lenT {l : List Nat} (h : l.length ≤ line) : bfun .len [.str (T l)] = some (.fz (.int l.length)) := by
  show (if (T l).length ≤ line then some (E.fz (.int (T l).length)) else none) = _
  rw [T_len, if_pos h]
theorem itemsT {l : List Nat} (h : l.length ≤ line) : itemsU (.str (T l)) = some (l.map fun c => .str (T [c])) := by
  show (if (T l).length ≤ line then some ((T l).cps.toList.map fun c => U.str ⟨#[c]⟩) else none) = _
  rw [T_len, if_pos h, T_cps]
  rfl
theorem eqT {a b : List Nat} {j k : Nat} (ha : okL j a) (hb : okL k b) : cop .eq (.str (T a)) (.str (T b)) = some (decide (a = b)) := by
  show (if dat 16 (.str (T a)) && dat 16 (.str (T b)) then some (eqb (.str (T a)) (.str (T b))) else none) = _
  rw [ha.dat, hb.dat]
  show some (T a == T b) = _
  rw [T_beq]
theorem neT {a b : List Nat} {j k : Nat} (ha : okL j a) (hb : okL k b) : cop .ne (.str (T a)) (.str (T b)) = some (!decide (a = b)) := by
  show (if dat 16 (.str (T a)) && dat 16 (.str (T b)) then some (!eqb (.str (T a)) (.str (T b))) else none) = _
  rw [ha.dat, hb.dat]
  show some (!(T a == T b)) = _
  rw [T_beq]
theorem cut_len {α : Type} (l : List α) (lo hi : Option Int) : (cut l lo hi).length ≤ l.length := by
  unfold cut
  simp only [List.length_take, List.length_drop]
  omega
theorem cut_mem {α : Type} {l : List α} {lo hi : Option Int} {c : α} (h : c ∈ cut l lo hi) : c ∈ l := List.mem_of_mem_drop (List.mem_of_mem_take h)
/-- codes joined -/
theorem asStrs_map : ∀ ls : List (List Nat), asStrs (ls.map fun l => .str (T l)) = some (ls.map T)
  | [] => rfl
  | l :: r => by
    show (asStrs (r.map fun l => U.str (T l))).map (T l :: ·) = _
    rw [asStrs_map r]; rfl
theorem join_T (a : List Nat) (ls : List (List Nat)) : Str.join (T a) (ls.map T) = T (TL.joinL a ls) := by
  rw [T_eta (Str.join (T a) (ls.map T))]
  congr 1
  have := TL.tl_join (T a) (ls.map T)
  have e : (ls.map T).map TL.tl = ls := by
    rw [List.map_map]
    conv => rhs; rw [← List.map_id ls]
    congr 1
  rw [e] at this
  have e2 : TL.tl (T a) = a := T_cps a
  rw [e2] at this
  exact this
theorem joinL_nil : ∀ ls : List (List Nat), TL.joinL [] ls = ls.flatten
  | [] => rfl
  | [p] => by simp [TL.joinL]
  | p :: q :: r => by
    have := joinL_nil (q :: r)
    simp only [TL.joinL, this, List.flatten_cons, List.nil_append]
theorem sum_lens (ls : List (List Nat)) : ((ls.map T).map (·.length)).sum = ls.flatten.length := by
  induction ls with
  | nil => rfl
  | cons l r ih =>
    simp only [List.map_cons, List.sum_cons, T_len, List.flatten_cons, List.length_append] at ih ⊢
    omega
theorem joinT {ls : List (List Nat)} (h : ls.flatten.length ≤ line) : bmeth .join (.str (T [])) [.lst (ls.map fun l => .str (T l))] = some (.fz (.str (T ls.flatten))) := by
  show (asStrs (ls.map fun l => U.str (T l))).bind (fun ys => if (ys.map (·.length)).sum + ys.length * (T []).length ≤ line then some (E.fz (.str (Str.join (T []) ys))) else none) = _
  rw [asStrs_map]
  simp only [Option.bind_some]
  rw [sum_lens, T_len, List.length_nil, Nat.mul_zero, Nat.add_zero, if_pos h, join_T, joinL_nil]
theorem ones_flat : ∀ as : List Nat, (as.map fun c => [c]).flatten = as
  | [] => rfl
  | a :: r => by simp [ones_flat r]
theorem joinT1 {as : List Nat} (h : as.length ≤ line) : bmeth .join (.str (T [])) [.lst (as.map fun c => .str (T [c]))] = some (.fz (.str (T as))) := by
  have e : as.map (fun c => U.str (T [c])) = (as.map fun c => [c]).map fun l => U.str (T l) := by simp
  rw [e, joinT (by rw [ones_flat]; exact h), ones_flat]
@[simp] theorem bmK_join (x : Str) : bmK .join (.str x) = some () := rfl
/-- a comprehension whose turns each give a thing of a sort -/
theorem WP_goCompR {X : XC} {f : U → CH → Res (Option U)} (I : CH → Prop) (R : U → Prop) {Q : List U → CH → Prop} : ∀ {xs : List U} {h : CH} {acc : List U}, I h → (∀ x ∈ xs, ∀ h, I h → WP noX (f x h) fun o h => ∃ u, o = some u ∧ R u ∧ I h) →
    (∀ ys h, I h → ys.length = xs.length → (∀ y ∈ ys, R y) → Q (acc ++ ys) h) → WP X (goComp f xs h acc) Q
  | [], h, acc, i, st, fin => by
    have := fin [] h i rfl (by simp)
    simpa [goComp] using this
  | x :: r, h, acc, i, st, fin => by
    have w := st x List.mem_cons_self h i
    unfold goComp
    cases hf : f x h with
    | stuck => rw [hf] at w; exact False.elim w
    | exc c fs h2 => rw [hf] at w; exact False.elim w
    | ok o h2 =>
      rw [hf] at w
      obtain ⟨u, e, ru, i2⟩ : ∃ u, o = some u ∧ R u ∧ I h2 := w
      subst e
      refine WP_goCompR I R i2 (fun y hy => st y (List.mem_cons_of_mem _ hy)) fun ys h3 i3 l3 r3 => ?_
      have := fin (u :: ys) h3 i3 (by simp [l3]) (fun y hy => by
        rcases List.mem_cons.mp hy with rfl | hy
        · exact ru
        · exact r3 y hy)
      simpa using this
/-- things of a sort, by what they are made of -/
theorem map_of {α : Type} {f : α → U} {P : α → Prop} : ∀ {ys : List U}, (∀ y ∈ ys, ∃ a, P a ∧ y = f a) → ∃ as : List α, ys = as.map f ∧ ∀ a ∈ as, P a
  | [], _ => ⟨[], rfl, by simp⟩
  | y :: r, h => by
    obtain ⟨a, pa, rfl⟩ := h y List.mem_cons_self
    obtain ⟨as, rfl, p⟩ := map_of (ys := r) fun y hy => h y (List.mem_cons_of_mem _ hy)
    exact ⟨a :: as, rfl, fun b hb => by
      rcases List.mem_cons.mp hb with rfl | hb
      · exact pa
      · exact p b hb⟩
end Mi
namespace Mi
open PySem PySem.Spec L2
def top (i : Nat) : Stmt := PySem.Challenge.pw_weirwatch_k01_words_told.main.body.getD i (.Pass ⟨0, 0, 0, 0⟩)
def c_is_whole : CDef := ⟨3, 3,
  [.ret (.test (.and [(.bv (.isty (.var 0) [.int])), (.notv (.isty (.var 0) [.bool])), (.bv (.chain .le .le (.var 1) (.var 0) (.var 2)))]))]⟩
def d_is_whole : DD := ⟨.fn .n_is_whole, ⟨("is_whole", none), "is_whole", "is_whole", defArgs (top 5), defBody (top 5), defScope (top 5), [], []⟩, ["thing", "low", "high"], ["thing", "low", "high"], c_is_whole, []⟩
def k_is_name_0 : CE := .comp (.nm 1) (.seq (.var 0)) [] (.cmp .in_ (.var 1) (.cst .n_SMALL))
def c_is_name : CDef := ⟨1, 2,
  [.ite (.or [(.not (.val (.isty (.var 0) [.str]))), (.not (.chain .le .le (.int 1) (.bf .len [(.var 0)]) (.cst .n_LONGEST_NAME)))])
    [.ret (.bl false)]
    [],
  .ret (.bf .all [k_is_name_0])]⟩
def d_is_name : DD := ⟨.fn .n_is_name, ⟨("is_name", none), "is_name", "is_name", defArgs (top 6), defBody (top 6), defScope (top 6), [], []⟩, ["thing", "sign"], ["thing"], c_is_name, [1]⟩
def k_number_in_0 : CE := .comp (.nm 4) (.seq (.var 0)) [] (.cmp .in_ (.var 4) (.cst .n_FIGURES))
def c_number_in : CDef := ⟨3, 5,
  [.ite (.or [(.not (.chain .le .le (.int 1) (.bf .len [(.var 0)]) (.cst .n_MOST_FIGURES))), (.not (.val (.bf .all [k_number_in_0])))])
    [.ret .non]
    [],
  .ite (.and [(.cmp .eq (.ix (.var 0) (.int 0)) (.str "0")), (.cmp .gt (.bf .len [(.var 0)]) (.int 1))])
    [.ret .non]
    [],
  .set 3 (.bf .int [(.var 0)]),
  .ite (.not (.chain .le .le (.var 1) (.var 3) (.var 2)))
    [.ret .non]
    [],
  .retv 3]⟩
def d_number_in : DD := ⟨.fn .n_number_in, ⟨("number_in", none), "number_in", "number_in", defArgs (top 7), defBody (top 7), defScope (top 7), [], []⟩, ["text", "low", "high", "number", "sign"], ["text", "low", "high"], c_number_in, [4]⟩
def c_law_cell : CDef := ⟨2, 2,
  [.ite (.cmp .lt (.var 1) (.bf .len [(.var 0)]))
    [.ret (.ix (.var 0) (.var 1))]
    [],
  .ret (.op .add (.op .mul (.int 7919) (.var 1)) (.int 31))]⟩
def d_law_cell : DD := ⟨.fn .n_law_cell, ⟨("_law_cell", none), "_law_cell", "_law_cell", defArgs (top 9), defBody (top 9), defScope (top 9), [], []⟩, ["_law_script", "_law_k"], ["_law_script", "_law_k"], c_law_cell, []⟩
def c_law_stream : CDef := ⟨1, 1,
  [.ret (.lst [(.bf .max [(.int 0), (.op .sub (.var 0) (.op .pow (.int 10) (.int 18)))]), (.op .mod (.var 0) (.int 2147483647)), (.int 0)])]⟩
def d_law_stream : DD := ⟨.fn .n_law_stream, ⟨("_law_stream", none), "_law_stream", "_law_stream", defArgs (top 10), defBody (top 10), defScope (top 10), [], []⟩, ["_law_cell_here"], ["_law_cell_here"], c_law_stream, []⟩
def c_law_take : CDef := ⟨2, 4,
  [.ix (.var 0) (.int 2) (.op .add (.ix (.var 0) (.int 2)) (.int 1)),
  .ite (.cmp .gt (.ix (.var 0) (.int 0)) (.int 0))
    [.set 3 (.op .mod (.ix (.var 0) (.int 0)) (.var 1)),
    .ix (.var 0) (.int 0) (.op .fdiv (.ix (.var 0) (.int 0)) (.var 1)),
    .retv 3]
    [],
  .set 2 (.op .mod (.op .mul (.op .add (.ix (.var 0) (.int 1)) (.op .mul (.int 7919) (.ix (.var 0) (.int 2)))) (.int 48271)) (.int 2147483629)),
  .set 2 (.op .mod (.op .mul (.var 2) (.var 2)) (.int 2147483587)),
  .ret (.op .mod (.op .fdiv (.op .mod (.op .add (.op .mul (.var 2) (.op .add (.var 2) (.int 11))) (.op .mul (.int 16807) (.ix (.var 0) (.int 2)))) (.int 2147483647)) (.int 16)) (.var 1))]⟩
def d_law_take : DD := ⟨.fn .n_law_take, ⟨("_law_take", none), "_law_take", "_law_take", defArgs (top 11), defBody (top 11), defScope (top 11), [], []⟩, ["_law_stream_here", "_law_many", "_law_number", "_law_digit"], ["_law_stream_here", "_law_many"], c_law_take, []⟩
def c_law_spoilt : CDef := ⟨3, 4,
  [.ite (.and [(.cmp .ne (.var 1) (.str "")), (.cmp .eq (.call .n_law_take [(.var 0), (.int 3)] 0) (.int 0))])
    [.set 3 (.call .n_law_take [(.var 0), (.bf .len [(.var 1)])] 0),
    .ret (.op .add (.op .add (.slice (.var 1) none (some (.var 3))) (.ix (.var 2) (.call .n_law_take [(.var 0), (.bf .len [(.var 2)])] 0))) (.slice (.var 1) (some (.op .add (.var 3) (.int 1))) none))]
    [],
  .retv 1]⟩
def d_law_spoilt : DD := ⟨.fn .n_law_spoilt, ⟨("_law_spoilt", none), "_law_spoilt", "_law_spoilt", defArgs (top 12), defBody (top 12), defScope (top 12), [], []⟩, ["_law_stream_here", "_law_word", "_law_signs", "_law_place"], ["_law_stream_here", "_law_word", "_law_signs"], c_law_spoilt, []⟩
def k_law_letters_0 : CE := .comp (.nm 3) (.range [(.call .n_law_take [(.var 0), (.int 11)] 0)]) [] (.ix (.var 1) (.call .n_law_take [(.var 0), (.int 26)] 0))
def c_law_letters : CDef := ⟨1, 4,
  [.set 1 (.str "abcdefghijklmnopqrstuvwxyz"),
  .set 2 (.bm .join (.str "") [k_law_letters_0]),
  .ret (.call .n_law_spoilt [(.var 0), (.var 2), (.str "AZ0 _`{|.-")] 0)]⟩
def d_law_letters : DD := ⟨.fn .n_law_letters, ⟨("_law_letters", none), "_law_letters", "_law_letters", defArgs (top 13), defBody (top 13), defScope (top 13), [], []⟩, ["_law_stream_here", "_law_letters_here", "_law_word", "_law_k"], ["_law_stream_here"], c_law_letters, [3]⟩
def k_law_figures_0 : CE := .comp (.nm 2) (.range [(.call .n_law_take [(.var 0), (.int 9)] 0)]) [] (.ix (.str "0123456789") (.call .n_law_take [(.var 0), (.int 10)] 0))
def c_law_figures : CDef := ⟨1, 3,
  [.set 1 (.bm .join (.str "") [k_law_figures_0]),
  .ite (.cmp .eq (.call .n_law_take [(.var 0), (.int 5)] 0) (.int 0))
    [.set 1 (.op .add (.str "0") (.var 1))]
    [],
  .ret (.call .n_law_spoilt [(.var 0), (.var 1), (.str "-+ .,/:x_")] 0)]⟩
def d_law_figures : DD := ⟨.fn .n_law_figures, ⟨("_law_figures", none), "_law_figures", "_law_figures", defArgs (top 14), defBody (top 14), defScope (top 14), [], []⟩, ["_law_stream_here", "_law_word", "_law_k"], ["_law_stream_here"], c_law_figures, [2]⟩
def k_law_is_name_0 : CE := .comp (.nm 1) (.seq (.var 0)) [(.cmp .notin (.var 1) (.str "abcdefghijklmnopqrstuvwxyz"))] (.var 1)
def c_law_is_name : CDef := ⟨1, 2,
  [.ret (.test (.and [(.bv (.chain .le .le (.int 1) (.bf .len [(.var 0)]) (.int 8))), (.bv (.cmp .eq k_law_is_name_0 (.lst [])))]))]⟩
def d_law_is_name : DD := ⟨.fn .n_law_is_name, ⟨("_law_is_name", none), "_law_is_name", "_law_is_name", defArgs (top 15), defBody (top 15), defScope (top 15), [], []⟩, ["_law_word", "_law_sign"], ["_law_word"], c_law_is_name, [1]⟩
def k_law_plain_0 : CE := .comp (.nm 1) (.seq (.var 0)) [(.cmp .notin (.var 1) (.str "0123456789"))] (.var 1)
def c_law_plain : CDef := ⟨1, 2,
  [.ite (.or [(.not (.chain .le .le (.int 1) (.bf .len [(.var 0)]) (.int 6))), (.cmp .ne k_law_plain_0 (.lst []))])
    [.ret .non]
    [],
  .ite (.and [(.cmp .gt (.bf .len [(.var 0)]) (.int 1)), (.cmp .eq (.ix (.var 0) (.int 0)) (.str "0"))])
    [.ret .non]
    [],
  .ret (.bf .int [(.var 0)])]⟩
def d_law_plain : DD := ⟨.fn .n_law_plain, ⟨("_law_plain", none), "_law_plain", "_law_plain", defArgs (top 16), defBody (top 16), defScope (top 16), [], []⟩, ["_law_word", "_law_sign"], ["_law_word"], c_law_plain, [1]⟩
def b_law_whole_right_0 : List CS :=
  [.ite (.or [(.cmp .isnot (.call .n_is_whole [(.var 5), (.neg (.int 2)), (.op .pow (.int 10) (.int 31))] 0) (.bl false)), (.cmp .isnot (.call .n_is_name [(.var 5)] 0) (.bl false))])
    [.ret (.bl false)]
    []]
def c_law_whole_right : CDef := ⟨1, 6,
  [.set 1 (.op .sub (.call .n_law_take [(.var 0), (.op .pow (.int 10) (.int 30))] 0) (.ix (.lst [(.int 0), (.op .pow (.int 10) (.int 30)), (.op .mul (.int 5) (.op .pow (.int 10) (.int 29)))]) (.call .n_law_take [(.var 0), (.int 3)] 0))),
  .ite (.cmp .eq (.call .n_law_take [(.var 0), (.int 2)] 0) (.int 0))
    [.set 1 (.op .sub (.call .n_law_take [(.var 0), (.int 30)] 0) (.int 5))]
    [],
  .set 2 (.op .sub (.op .add (.var 1) (.call .n_law_take [(.var 0), (.int 4)] 0)) (.int 2)),
  .set 3 (.op .sub (.op .add (.var 1) (.call .n_law_take [(.var 0), (.int 4)] 0)) (.int 1)),
  .set 4 (.call .n_is_whole [(.var 1), (.var 2), (.var 3)] 0),
  .ite (.or [(.not (.val (.isty (.var 4) [.bool]))), (.cmp .ne (.var 4) (.chain .le .le (.var 2) (.var 1) (.var 3)))])
    [.ret (.bl false)]
    [],
  .ite (.or [(.cmp .isnot (.call .n_is_whole [(.var 1), (.var 1), (.var 1)] 0) (.bl true)), (.cmp .isnot (.call .n_is_whole [(.var 1), (.op .add (.var 1) (.int 1)), (.op .add (.var 1) (.int 9))] 0) (.bl false))])
    [.ret (.bl false)]
    [],
  .for_ (.nm 5) (.seq (.lst [(.bl true), (.bl false), .non, (.bf .str [(.var 1)]), (.lst [(.var 1)]), (.tup [(.var 1)]), (.dct [] [])])) b_law_whole_right_0,
  .ret (.cmp .is_ (.call .n_is_name [(.var 1)] 0) (.bl false))]⟩
def d_law_whole_right : DD := ⟨.fn .n_law_whole_right, ⟨("_law_whole_right", none), "_law_whole_right", "_law_whole_right", defArgs (top 17), defBody (top 17), defScope (top 17), [], []⟩, ["_law_stream_here", "_law_number", "_law_low", "_law_high", "_law_found", "_law_thing"], ["_law_stream_here"], c_law_whole_right, []⟩
def c_law_number_right : CDef := ⟨1, 3,
  [.set 1 (.call .n_law_figures [(.var 0)] 0),
  .set 2 (.call .n_law_plain [(.var 1)] 0),
  .ite (.cmp .ne (.call .n_number_in [(.var 1), (.int 0), (.int 999999)] 0) (.var 2))
    [.ret (.bl false)]
    [],
  .ite (.cmp .isnot (.var 2) .non)
    [.ite (.or [(.val (.isty (.call .n_number_in [(.var 1), (.var 2), (.var 2)] 0) [.bool])), (.cmp .ne (.call .n_number_in [(.var 1), (.var 2), (.var 2)] 0) (.var 2))])
      [.ret (.bl false)]
      [],
    .ite (.or [(.cmp .isnot (.call .n_number_in [(.var 1), (.op .add (.var 2) (.int 1)), (.int 999999)] 0) .non), (.cmp .isnot (.call .n_number_in [(.var 1), (.int 0), (.op .sub (.var 2) (.int 1))] 0) .non)])
      [.ret (.bl false)]
      []]
    [],
  .ret (.bl true)]⟩
def d_law_number_right : DD := ⟨.fn .n_law_number_right, ⟨("_law_number_right", none), "_law_number_right", "_law_number_right", defArgs (top 18), defBody (top 18), defScope (top 18), [], []⟩, ["_law_stream_here", "_law_word", "_law_due"], ["_law_stream_here"], c_law_number_right, []⟩
def b_law_0 : List CS :=
  [.own 2 (.call .n_law_stream [(.call .n_law_cell [(.var 0), (.var 1)] 0)] 0),
  .share 2,
  .ite (.or [(.not (.val (.call .n_law_whole_right [(.var 2)] 0))), (.not (.val (.call .n_law_number_right [(.var 2)] 0)))])
    [.ret (.bl false)]
    [],
  .set 3 (.call .n_law_letters [(.var 2)] 0),
  .set 4 (.call .n_is_name [(.var 3)] 0),
  .ite (.or [(.not (.val (.isty (.var 4) [.bool]))), (.cmp .ne (.var 4) (.call .n_law_is_name [(.var 3)] 0)), (.cmp .ne (.call .n_number_in [(.var 3), (.int 0), (.int 999999)] 0) (.call .n_law_plain [(.var 3)] 0))])
    [.ret (.bl false)]
    []]
def c_law : CDef := ⟨1, 5,
  [.for_ (.nm 1) (.range [(.bf .max [(.int 1), (.bf .min [(.int 40), (.bf .len [(.var 0)])])])]) b_law_0,
  .ret (.test (.and [(.bv (.cmp .is_ (.call .n_is_name [(.str "")] 0) (.bl false))), (.bv (.cmp .is_ (.call .n_number_in [(.str ""), (.int 0), (.int 9)] 0) .non)), (.bv (.cmp .eq (.call .n_number_in [(.str "0"), (.int 0), (.int 0)] 0) (.int 0)))]))]⟩
def d_law : DD := ⟨.fn .n_law, ⟨("law", none), "law", "law", defArgs (top 19), defBody (top 19), defScope (top 19), [], []⟩, ["_law_script", "_law_k", "_law_stream_here", "_law_word", "_law_found"], ["_law_script"], c_law, []⟩
def dds : List DD := [d_is_whole, d_is_name, d_number_in, d_law_cell, d_law_stream, d_law_take, d_law_spoilt, d_law_letters, d_law_figures, d_law_is_name, d_law_plain, d_law_whole_right, d_law_number_right, d_law]
def nms : Nm → Str
  | .n_is_whole => "is_whole"
  | .n_is_name => "is_name"
  | .n_number_in => "number_in"
  | .n_law_cell => "_law_cell"
  | .n_law_stream => "_law_stream"
  | .n_law_take => "_law_take"
  | .n_law_spoilt => "_law_spoilt"
  | .n_law_letters => "_law_letters"
  | .n_law_figures => "_law_figures"
  | .n_law_is_name => "_law_is_name"
  | .n_law_plain => "_law_plain"
  | .n_law_whole_right => "_law_whole_right"
  | .n_law_number_right => "_law_number_right"
  | .n_law => "law"
  | .n_SMALL => "SMALL"
  | .n_FIGURES => "FIGURES"
  | .n_LONGEST_NAME => "LONGEST_NAME"
  | .n_MOST_FIGURES => "MOST_FIGURES"
  | _ => "?"
def cs : List (Nm × U) := [(.n_SMALL, .str "abcdefghijklmnopqrstuvwxyz"), (.n_FIGURES, .str "0123456789"), (.n_LONGEST_NAME, .int 8), (.n_MOST_FIGURES, .int 6)]
def names0 : List Str := [Str.ofString "SMALL", Str.ofString "FIGURES", Str.ofString "LONGEST_NAME", Str.ofString "MOST_FIGURES", Str.ofString "is_whole", Str.ofString "is_name", Str.ofString "number_in", Str.ofString "_law_cell", Str.ofString "_law_stream", Str.ofString "_law_take", Str.ofString "_law_spoilt", Str.ofString "_law_letters", Str.ofString "_law_figures", Str.ofString "_law_is_name", Str.ofString "_law_plain", Str.ofString "_law_whole_right", Str.ofString "_law_number_right"]
def names : List Str := names0
-- ID weirwatch_k01_words_told LAW 19
theorem okAll : allOk nms dds = true := by decide +kernel
def PG : Prog := progOf (topOf cs) (fun _ => .own) dds
def lawRun (ns : List Int) : Bool := match phi PG 8 (.fn .n_law) [.scr ns] (some []) with
  | .ok (.fz (.bl true)) _ => true
  | _ => false
end Mi
namespace Mi
open PySem (Str)
theorem phi_fn {P : Prog} {n : Nat} {f : Nm} {d : CDef} {us : List U} {h : CH} (e : P.defs (.fn f) = some d) (hl : us.length = d.params) : phi P (n + 1) (.fn f) us h = (match evB P.toTop (phi P n) d.body (args d us) h with
    | .next _ h => .ok (.fz .non) h
    | .ret e h => .ok e h
    | .exc c fs _ h => .exc c fs h
    | _ => .stuck) := by
  simp only [phi, e, runDef, hl, if_true] <;> rfl
/-- the stream: its three numbers -/
def strm (a b c : Int) : U := .lst [.int a, .int b, .int c]
theorem small_of {i : Int} (h : 0 ≤ i) (h2 : i < 18446744073709551616) : small i = true := by
  unfold small
  simp only [decide_eq_true_eq]
  omega
def drawN (b c : Int) : Int := (b + 7919 * (c + 1)) * 48271 % 2147483629 * ((b + 7919 * (c + 1)) * 48271 % 2147483629) % 2147483587
/-- a drawn number -/
def drawD (a b c m : Int) : Int := if 0 < a then a % m else (drawN b c * (drawN b c + 11) + 16807 * (c + 1)) % 2147483647 / 16 % m
def drawA (a m : Int) : Int := if 0 < a then a / m else a
theorem draw_lo {a b c m : Int} (h : 0 < m) : 0 ≤ drawD a b c m := by
  unfold drawD; split <;> exact Int.emod_nonneg _ (by omega)
theorem draw_hi {a b c m : Int} (h : 0 < m) : drawD a b c m < m := by
  unfold drawD; split <;> exact Int.emod_lt_of_pos _ h
theorem take_run {P : Prog} (hd : P.defs (.fn .n_law_take) = some c_law_take) {n : Nat} {r : Nat} {xs : List U} {a b c m : Int} (hx : xs[r]? = some (strm a b c)) (hm : 0 < m) (hm2 : m.natAbs.log2 < 9000) :
    phi P (n + 1) (.fn .n_law_take) [.ref r, .int m] (some xs) = .ok (.fz (.int (drawD a b c m))) (some (xs.set r (strm (drawA a m) b (c + 1)))) := by
  have hr : r < xs.length := (List.getElem?_eq_some_iff.mp hx).1
  rw [phi_fn hd rfl]
  have hset : ∀ v, (xs.set r v)[r]? = some v := fun v => List.getElem?_set_self hr
  have m48 : small 48271 = true := by decide
  have m79 : small 7919 = true := by decide
  have m16 : small 16807 = true := by decide
  have f16 : ∀ i : Int, bop .fdiv (.int i) (.int 16) = some (.fz (.int (i / 16))) := fun i => fdiv_int (by decide) (by decide)
  have q1 : ∀ i : Int, bop .mod (.int i) (.int 2147483629) = some (.fz (.int (i % 2147483629))) := fun i => mod_int (by decide)
  have q2 : ∀ i : Int, bop .mod (.int i) (.int 2147483587) = some (.fz (.int (i % 2147483587))) := fun i => mod_int (by decide)
  have q3 : ∀ i : Int, bop .mod (.int i) (.int 2147483647) = some (.fz (.int (i % 2147483647))) := fun i => mod_int (by decide)
  have s1 : ∀ i : Int, small (i % 2147483629) = true := fun i => small_of (by omega) (by omega)
  have s2 : ∀ i : Int, small (i % 2147483587) = true := fun i => small_of (by omega) (by omega)
  by_cases ha : 0 < a
  · simp [c_law_take, args, hx, hset, strm, chg, setS, ha, mod_int hm, fdiv_log hm hm2, drawD, drawA]
  · simp [c_law_take, args, hx, hset, strm, chg, setS, ha, mod_int hm, fdiv_log hm hm2, mul_l m79, mul_r m48, mul_l m16, f16, q1, q2, q3, mul_l (s1 _), mul_l (s2 _), drawD, drawA, drawN]

theorem set_last (xs : List U) (s w : U) : (xs ++ [s]).set xs.length w = xs ++ [w] := by
  simp [List.set_append]
theorem take_last {P : Prog} (hd : P.defs (.fn .n_law_take) = some c_law_take) {n : Nat} {xs : List U} {a b c m : Int} (hm : 0 < m) (hm2 : m.natAbs.log2 < 9000) :
    phi P (n + 1) (.fn .n_law_take) [.ref xs.length, .int m] (some (xs ++ [strm a b c])) = .ok (.fz (.int (drawD a b c m))) (some (xs ++ [strm (drawA a m) b (c + 1)])) := by
  rw [take_run hd (a := a) (b := b) (c := c) (by simp) hm hm2, set_last]
def cellV (ns : List Int) (k : Nat) : Int := match ns[k]? with
  | some i => i
  | none => 7919 * k + 31
theorem cell_run {P : Prog} (hd : P.defs (.fn .n_law_cell) = some c_law_cell) {n : Nat} {ns : List Int} {k : Nat} {h : CH} : phi P (n + 1) (.fn .n_law_cell) [.scr ns, .int k] h = .ok (.fz (.int (cellV ns k))) h := by
  have m79 : small 7919 = true := by decide
  rw [phi_fn hd rfl]
  by_cases hk : k < ns.length
  · have e : L2.atI ns (k : Int) = ns[k]? := atI_nat hk
    have e2 : ns[k]? = some ns[k] := List.getElem?_eq_getElem hk
    simp [c_law_cell, args, bfun, hk, e, cellV]
  · have e2 : ns[k]? = none := List.getElem?_eq_none (by omega)
    simp [c_law_cell, args, bfun, hk, cellV, e2, mul_l m79]
theorem stream_run {P : Prog} (hd : P.defs (.fn .n_law_stream) = some c_law_stream) {n : Nat} {v : Int} {h : CH} : phi P (n + 1) (.fn .n_law_stream) [.int v] h = .ok (.own (strm (max 0 (v - 1000000000000000000)) (v % 2147483647) 0)) h := by
  have p : bop .pow (.int 10) (.int 18) = some (.fz (.int 1000000000000000000)) := by rfl
  have q3 : ∀ i : Int, bop .mod (.int i) (.int 2147483647) = some (.fz (.int (i % 2147483647))) := fun i => mod_int (by decide)
  rw [phi_fn hd rfl]
  simp [c_law_stream, args, bfun, p, q3, strm]
theorem ints_of : ∀ {ys : List U}, (∀ y ∈ ys, ∃ i, y = .int i) → ∃ as : List Int, ys = as.map .int
  | [], _ => ⟨[], rfl⟩
  | y :: r, h => by
    obtain ⟨i, rfl⟩ := h y List.mem_cons_self
    obtain ⟨as, rfl⟩ := ints_of (ys := r) fun y hy => h y (List.mem_cons_of_mem _ hy)
    exact ⟨i :: as, rfl⟩
theorem range_of {i : Int} (h : 0 ≤ i) (h2 : i ≤ 16777216) : rangeOf [.int i] = some (rangeU 0 i.toNat) := by
  show (if (wide i && decide (i.toNat ≤ line)) = true then some (rangeU 0 i.toNat) else none) = _
  rw [if_pos]
  unfold wide line
  simp only [Bool.and_eq_true, decide_eq_true_eq, Nat.ble_eq]
  omega
theorem rangeU_mem {lo : Int} {n : Nat} {x : U} (h : x ∈ rangeU lo n) : ∃ k : Nat, k < n ∧ x = .int (lo + k) := by
  unfold rangeU at h
  obtain ⟨k, hk, rfl⟩ := List.mem_map.mp h
  exact ⟨k, List.mem_range.mp hk, rfl⟩
theorem rangeU_len (lo : Int) (n : Nat) : (rangeU lo n).length = n := by simp [rangeU]

end Mi
namespace Mi
open PySem (Str)
def sgn (c : Nat) : U := .str ⟨#[c]⟩
theorem sub_one (x : Str) (c : Nat) : hasSub ⟨#[c]⟩ x = decide (c ∈ x.cps.toList) := PySem.StrLaws.found_one x c
theorem in_one (x : Str) (c : Nat) : cop .in_ (sgn c) (.str x) = some (decide (c ∈ x.cps.toList)) := by
  show some (hasSub ⟨#[c]⟩ x) = _
  rw [sub_one]
theorem notin_one (x : Str) (c : Nat) : cop .notin (sgn c) (.str x) = some (!decide (c ∈ x.cps.toList)) := by
  show some (!hasSub ⟨#[c]⟩ x) = _
  rw [sub_one]
theorem asBools_cs (f : Nat → Bool) : ∀ l : List Nat, asBools (l.map fun c => .bl (f c)) = some (l.map f)
  | [] => rfl
  | c :: r => by
    show (asBools (r.map fun c => .bl (f c))).map (f c :: ·) = _
    rw [asBools_cs f r]
    rfl
/-- [sign in S for sign in text] -/
theorem all_comp {f : U → CH → Res (Option U)} {h : CH} {p : Nat → Bool} (hf : ∀ c, f (sgn c) h = .ok (some (.bl (p c))) h) : ∀ (l : List Nat) (acc : List U), goComp f (l.map sgn) h acc = .ok (acc ++ l.map fun c => .bl (p c)) h
  | [], acc => by simp [goComp]
  | c :: r, acc => by
    simp only [List.map_cons, goComp, hf]
    rw [all_comp hf r]
    simp
/-- [sign for sign in text if sign not in S] -/
theorem out_comp {f : U → CH → Res (Option U)} {h : CH} {p : Nat → Bool} (hf : ∀ c, f (sgn c) h = .ok (if p c then none else some (sgn c)) h) : ∀ (l : List Nat) (acc : List U), goComp f (l.map sgn) h acc = .ok (acc ++ (l.filter fun c => !p c).map sgn) h
  | [], acc => by simp [goComp]
  | c :: r, acc => by
    simp only [List.map_cons, goComp, hf]
    by_cases hp : p c = true
    · simp only [hp, if_true]
      rw [out_comp hf r]
      simp [List.filter_cons, hp]
    · have hp' : p c = false := by simpa using hp
      simp only [hp', if_false, Bool.false_eq_true]
      rw [out_comp hf r]
      simp [List.filter_cons, hp']
theorem items_str {w : Str} (h : w.length ≤ line) : itemsU (.str w) = some (w.cps.toList.map sgn) := by
  show (if w.length ≤ line then some (w.cps.toList.map fun c => U.str ⟨#[c]⟩) else none) = _
  rw [if_pos h]
  rfl
def low26 : List Nat := (PySem.Str.ofString "abcdefghijklmnopqrstuvwxyz").cps.toList
def dig10 : List Nat := (PySem.Str.ofString "0123456789").cps.toList
theorem small_run {n : Nat} {w : Str} {h : CH} (hl : w.length ≤ line) : evE PG.toTop (phi PG n) [some (.val (.str w)), none] k_is_name_0 h = .ok (.own (.lst (w.cps.toList.map fun c => .bl (decide (c ∈ low26))))) h := by
  rw [k_is_name_0, evE_comp]
  have e := all_comp (f := compF PG.toTop (phi PG n) [some (.val (.str w)), none] (.nm 1) [] (.cmp .in_ (.var 1) (.cst .n_SMALL))) (h := h) (p := fun c => decide (c ∈ low26)) (fun c => by
    have hc : evE PG.toTop (phi PG n) [some (.val (.str w)), some (.val (sgn c))] (.cst .n_SMALL) h = .ok (.fz (.str (PySem.Str.ofString "abcdefghijklmnopqrstuvwxyz"))) h := rfl
    have hs : ∀ σ, E.see σ h (.fz (sgn c)) = some (sgn c) := fun σ => rfl
    simp [compF, hc, hs, in_one, low26]) w.cps.toList []
  simp [E.src, items_str hl, e]

def nameB (w : Str) : Bool := decide (1 ≤ (w.length : Int)) && (decide ((w.length : Int) ≤ 8) && w.cps.toList.all fun c => decide (c ∈ low26))
@[simp] theorem len_str {w : Str} (h : w.length ≤ line) : bfun .len [.str w] = some (.fz (.int w.length)) := by
  show (if w.length ≤ line then some (E.fz (.int w.length)) else none) = _
  rw [if_pos h]
theorem all_run {f : Nat → Bool} (l : List Nat) : bfun .all [.lst (l.map fun c => .bl (f c))] = some (.fz (.bl (l.all f))) := by
  show (asBools (l.map fun c => .bl (f c))).map (fun ys => E.fz (.bl (ys.all id))) = _
  rw [asBools_cs]
  simp [List.all_map]
theorem name_run {n : Nat} {w : Str} {h : CH} (hl : w.length ≤ line) : phi PG (n + 1) (.fn .n_is_name) [.str w] h = .ok (.fz (.bl (nameB w))) h := by
  rw [phi_fn (P := PG) (d := c_is_name) rfl rfl]
  have hc : ∀ σ, evE PG.toTop (phi PG n) σ (.cst .n_LONGEST_NAME) h = .ok (.fz (.int 8)) h := fun σ => rfl
  have hs := small_run (n := n) (w := w) (h := h) hl
  by_cases h1 : 1 ≤ (w.length : Int)
  · by_cases h2 : (w.length : Int) ≤ 8
    · simp [c_is_name, args, isTys, isTy, knd, knTy, tru, evT, hc, len_str hl, h1, h2, hs, all_run, nameB]
    · simp [c_is_name, args, isTys, isTy, knd, knTy, tru, evT, hc, len_str hl, h1, h2, nameB]
  · simp [c_is_name, args, isTys, isTy, knd, knTy, tru, evT, hc, len_str hl, h1, nameB]

theorem dat_sgn {c : Nat} (h : c < 0x110000) (n : Nat) : dat n (sgn c) = true := by
  simp [sgn, dat, strOk, h]
theorem datL_sgn : ∀ {l : List Nat}, (∀ c ∈ l, c < 0x110000) → ∀ n, datL n (l.map sgn) = true
  | [], _, n => rfl
  | c :: r, h, n => by
    simp only [List.map_cons, datL, dat_sgn (h c List.mem_cons_self), datL_sgn (fun d hd => h d (List.mem_cons_of_mem _ hd)) n, Bool.and_self]
theorem lname_comp {n : Nat} {w : Str} {h : CH} (hl : w.length ≤ line) : evE PG.toTop (phi PG n) [some (.val (.str w)), none] k_law_is_name_0 h = .ok (.own (.lst ((w.cps.toList.filter fun c => !decide (c ∈ low26)).map sgn))) h := by
  rw [k_law_is_name_0, evE_comp]
  have e := out_comp (f := compF PG.toTop (phi PG n) [some (.val (.str w)), none] (.nm 1) [(.cmp .notin (.var 1) (.str "abcdefghijklmnopqrstuvwxyz"))] (.var 1)) (h := h) (p := fun c => decide (c ∈ low26)) (fun c => by
    have hs : ∀ σ, E.see σ h (.fz (sgn c)) = some (sgn c) := fun σ => rfl
    by_cases hp : c ∈ low26
    · have hp' : c ∈ (PySem.Str.ofString "abcdefghijklmnopqrstuvwxyz").cps.toList := hp
      simp [compF, hs, notin_one, hp', hp]
    · have hp' : ¬ c ∈ (PySem.Str.ofString "abcdefghijklmnopqrstuvwxyz").cps.toList := hp
      simp [compF, hs, notin_one, hp', hp]) w.cps.toList []
  simp [E.src, items_str hl, e]
theorem filter_nil_all {p : Nat → Bool} : ∀ l : List Nat, ((l.filter fun c => !p c).map sgn).isEmpty = l.all p
  | [] => rfl
  | c :: r => by
    cases h : p c <;> simp [List.filter_cons, h]
    have := filter_nil_all (p := p) r
    simpa using this
theorem eq_nil {l : List Nat} (h : ∀ c ∈ l, c < 0x110000) : cop .eq (.lst (l.map sgn)) (.lst []) = some (l.map sgn).isEmpty := by
  show (if dat 16 (.lst (l.map sgn)) && dat 16 (.lst []) then some (eqb (.lst (l.map sgn)) (.lst [])) else none) = _
  have : dat 16 (.lst (l.map sgn)) = true := by simp only [dat]; exact datL_sgn h _
  rw [this]
  cases l <;> rfl
theorem lname_run {n : Nat} {w : Str} {h : CH} (hl : w.length ≤ line) (hw : ∀ c ∈ w.cps.toList, c < 0x110000) : phi PG (n + 1) (.fn .n_law_is_name) [.str w] h = .ok (.fz (.bl (nameB w))) h := by
  rw [phi_fn (P := PG) (d := c_law_is_name) rfl rfl]
  have hs := lname_comp (n := n) (w := w) (h := h) hl
  have he := eq_nil (l := w.cps.toList.filter fun c => !decide (c ∈ low26)) (fun c hc => hw c (List.mem_filter.mp hc).1)
  rw [filter_nil_all (p := fun c => decide (c ∈ low26))] at he
  generalize ((w.cps.toList.filter fun c => !decide (c ∈ low26)).map sgn) = fl at hs he
  unfold nameB
  generalize (w.cps.toList.all fun c => decide (c ∈ low26)) = al at he ⊢
  by_cases h1 : 1 ≤ (w.length : Int)
  · by_cases h2 : (w.length : Int) ≤ 8
    · cases al <;> simp [c_law_is_name, args, len_str hl, h1, h2, hs, he]
    · simp [c_law_is_name, args, len_str hl, h1, h2]
  · simp [c_law_is_name, args, len_str hl, h1]

/-! ### numbers in texts -/
theorem dig_iff {c : Nat} : c ∈ dig10 ↔ 48 ≤ c ∧ c ≤ 57 := by
  have : dig10 = [48, 49, 50, 51, 52, 53, 54, 55, 56, 57] := by decide +kernel
  rw [this]
  simp only [List.mem_cons, List.not_mem_nil, or_false]
  omega
theorem digs_of {w : Str} (h : (w.cps.toList.all fun c => decide (c ∈ dig10)) = true) : PySem.NumText.AllDigits w.cps.toList := fun c hc => by
  have := List.all_eq_true.mp h c hc
  exact dig_iff.mp (of_decide_eq_true this)
def valN (w : Str) : Int := (PySem.NumText.digitsVal w.cps.toList : Nat)
theorem int_run {w : Str} (h : (w.cps.toList.all fun c => decide (c ∈ dig10)) = true) (h1 : 1 ≤ (w.length : Int)) (h2 : (w.length : Int) ≤ 6) : bfun .int [.str w] = some (.fz (.int (valN w))) := by
  show (if w.length ≤ 640 then (PySem.intText? w).map fun i => E.fz (.int i) else none) = _
  have l : w.length = w.cps.toList.length := by simp [PySem.Str.length]
  rw [if_pos (by omega), PySem.intText_digits (digs_of h) (by intro e; rw [e] at l; simp at l; omega) (by omega)]
  rfl
/-- does it begin with a nought -/
def zeroB (w : Str) : Bool := decide (w.cps.toList.head? = some 48)
theorem first_run {w : Str} (h1 : 1 ≤ (w.length : Int)) (hl : w.length ≤ line) : ∃ c, getIx (.str w) (.int 0) = some (sgn c) ∧ zeroB w = decide (c = 48) ∧ c ∈ w.cps.toList := by
  have l : w.length = w.cps.toList.length := by simp [PySem.Str.length]
  have e : getIx (.str w) (.int 0) = (if w.length ≤ line then (L2.atI w.cps.toList 0).map fun c => U.str ⟨#[c]⟩ else none) := rfl
  rw [e, if_pos hl]
  unfold zeroB
  cases hw : w.cps.toList with
  | nil => rw [hw] at l; simp at l; omega
  | cons c r =>
    refine ⟨c, ?_, by simp, List.mem_cons_self⟩
    rw [atI0]
    rfl
theorem eq_zero {c : Nat} (h : c < 0x110000) : cop .eq (sgn c) (.str "0") = some (decide (c = 48)) := by
  show (if dat 16 (sgn c) && dat 16 (.str "0") then some (eqb (sgn c) (.str "0")) else none) = _
  rw [dat_sgn h]
  have d0 : dat 16 (.str "0") = true := by decide +kernel
  rw [d0]
  show some ((⟨#[c]⟩ : Str) == "0") = _
  have e0 : ("0" : Str) = ⟨#[48]⟩ := by decide +kernel
  rw [e0]
  by_cases hc : c = 48
  · subst hc; decide +kernel
  · have : ((⟨#[c]⟩ : Str) == ⟨#[48]⟩) = false := by
      simp only [beq_eq_false_iff_ne, ne_eq, PySem.Str.mk.injEq]
      intro e
      have := congrArg Array.toList e
      simp at this
      exact hc this
    rw [this]
    simp [hc]

/-- the number that a text writes plainly -/
def numV (w : Str) : Option Int := if decide (1 ≤ (w.length : Int)) && (decide ((w.length : Int) ≤ 6) && w.cps.toList.all fun c => decide (c ∈ dig10)) then (if zeroB w && decide (1 < (w.length : Int)) then none else some (valN w)) else none
def optU (o : Option Int) : U := match o with
  | some i => .int i
  | none => .non
def within (lo hi : Int) (o : Option Int) : Option Int := match o with
  | some i => if lo ≤ i ∧ i ≤ hi then some i else none
  | none => none
theorem figs_run {n : Nat} {w : Str} {o1 o2 o3 o4 : Option Sl} {h : CH} (hl : w.length ≤ line) : evE PG.toTop (phi PG n) [some (.val (.str w)), o1, o2, o3, o4] k_number_in_0 h = .ok (.own (.lst (w.cps.toList.map fun c => .bl (decide (c ∈ dig10))))) h := by
  rw [k_number_in_0, evE_comp]
  have e := all_comp (f := compF PG.toTop (phi PG n) [some (.val (.str w)), o1, o2, o3, o4] (.nm 4) [] (.cmp .in_ (.var 4) (.cst .n_FIGURES))) (h := h) (p := fun c => decide (c ∈ dig10)) (fun c => by
    have hc : evE PG.toTop (phi PG n) [some (.val (.str w)), o1, o2, o3, some (.val (sgn c))] (.cst .n_FIGURES) h = .ok (.fz (.str (PySem.Str.ofString "0123456789"))) h := rfl
    have hs : ∀ σ, E.see σ h (.fz (sgn c)) = some (sgn c) := fun σ => rfl
    simp [compF, hc, hs, in_one, dig10]) w.cps.toList []
  simp [E.src, items_str hl, e]
theorem number_in_run {n : Nat} {w : Str} {lo hi : Int} {h : CH} (hl : w.length ≤ line) (hw : ∀ c ∈ w.cps.toList, c < 0x110000) : phi PG (n + 1) (.fn .n_number_in) [.str w, .int lo, .int hi] h = .ok (.fz (optU (within lo hi (numV w)))) h := by
  rw [phi_fn (P := PG) (d := c_number_in) rfl rfl]
  have hc : ∀ σ, evE PG.toTop (phi PG n) σ (.cst .n_MOST_FIGURES) h = .ok (.fz (.int 6)) h := fun σ => rfl
  have hs : ∀ o1 o2 o3 o4, evE PG.toTop (phi PG n) [some (.val (.str w)), o1, o2, o3, o4] k_number_in_0 h = _ := fun o1 o2 o3 o4 => figs_run (n := n) (w := w) (h := h) hl
  have ha := all_run (f := fun c => decide (c ∈ dig10)) w.cps.toList
  unfold numV
  by_cases h1 : 1 ≤ (w.length : Int)
  · by_cases h2 : (w.length : Int) ≤ 6
    · by_cases h3 : (w.cps.toList.all fun c => decide (c ∈ dig10)) = true
      · obtain ⟨c, g1, g2, g3⟩ := first_run h1 hl
        have g4 := eq_zero (hw c g3)
        have hi' := int_run h3 h1 h2
        rw [h3] at ha ⊢
        rw [g2]
        have hsg : ∀ σ, E.see σ h (.fz (sgn c)) = some (sgn c) := fun σ => rfl
        generalize (w.cps.toList.map fun c => U.bl (decide (c ∈ dig10))) = fl at hs ha
        generalize valN w = v at hi' ⊢
        generalize decide (c = 48) = zb at g4 ⊢
        cases zb with
        | true =>
          by_cases h5 : 1 < (w.length : Int)
          · simp [c_number_in, args, len_str hl, hc, h1, h2, hs, ha, tru, g1, hsg, g4, h5, within, optU]
          · by_cases h6 : lo ≤ v
            · by_cases h7 : v ≤ hi
              · simp [c_number_in, args, len_str hl, hc, h1, h2, hs, ha, tru, g1, hsg, g4, h5, hi', setS, h6, h7, within, optU]
              · simp [c_number_in, args, len_str hl, hc, h1, h2, hs, ha, tru, g1, hsg, g4, h5, hi', setS, h6, h7, within, optU]
            · simp [c_number_in, args, len_str hl, hc, h1, h2, hs, ha, tru, g1, hsg, g4, h5, hi', setS, h6, within, optU]
        | false =>
          by_cases h6 : lo ≤ v
          · by_cases h7 : v ≤ hi
            · simp [c_number_in, args, len_str hl, hc, h1, h2, hs, ha, tru, g1, hsg, g4, hi', setS, h6, h7, within, optU]
            · simp [c_number_in, args, len_str hl, hc, h1, h2, hs, ha, tru, g1, hsg, g4, hi', setS, h6, h7, within, optU]
          · simp [c_number_in, args, len_str hl, hc, h1, h2, hs, ha, tru, g1, hsg, g4, hi', setS, h6, within, optU]
      · have h3' : (w.cps.toList.all fun c => decide (c ∈ dig10)) = false := by simpa using h3
        rw [h3'] at ha ⊢
        generalize (w.cps.toList.map fun c => U.bl (decide (c ∈ dig10))) = fl at hs ha
        simp [c_number_in, args, len_str hl, hc, h1, h2, hs, ha, tru, within, optU]
    · simp [c_number_in, args, len_str hl, hc, h1, h2, within, optU]
  · simp [c_number_in, args, len_str hl, hc, h1, within, optU]

theorem lplain_comp {n : Nat} {w : Str} {h : CH} (hl : w.length ≤ line) : evE PG.toTop (phi PG n) [some (.val (.str w)), none] k_law_plain_0 h = .ok (.own (.lst ((w.cps.toList.filter fun c => !decide (c ∈ dig10)).map sgn))) h := by
  rw [k_law_plain_0, evE_comp]
  have e := out_comp (f := compF PG.toTop (phi PG n) [some (.val (.str w)), none] (.nm 1) [(.cmp .notin (.var 1) (.str "0123456789"))] (.var 1)) (h := h) (p := fun c => decide (c ∈ dig10)) (fun c => by
    have hs : ∀ σ, E.see σ h (.fz (sgn c)) = some (sgn c) := fun σ => rfl
    by_cases hp : c ∈ dig10
    · have hp' : c ∈ (PySem.Str.ofString "0123456789").cps.toList := hp
      simp [compF, hs, notin_one, hp', hp]
    · have hp' : ¬ c ∈ (PySem.Str.ofString "0123456789").cps.toList := hp
      simp [compF, hs, notin_one, hp', hp]) w.cps.toList []
  simp [E.src, items_str hl, e]
theorem ne_nil_ {l : List Nat} (h : ∀ c ∈ l, c < 0x110000) : cop .ne (.lst (l.map sgn)) (.lst []) = some (!(l.map sgn).isEmpty) := by
  show (if dat 16 (.lst (l.map sgn)) && dat 16 (.lst []) then some (!eqb (.lst (l.map sgn)) (.lst [])) else none) = _
  have : dat 16 (.lst (l.map sgn)) = true := by simp only [dat]; exact datL_sgn h _
  rw [this]
  cases l <;> rfl
theorem plain_run {n : Nat} {w : Str} {h : CH} (hl : w.length ≤ line) (hw : ∀ c ∈ w.cps.toList, c < 0x110000) : phi PG (n + 1) (.fn .n_law_plain) [.str w] h = .ok (.fz (optU (numV w))) h := by
  rw [phi_fn (P := PG) (d := c_law_plain) rfl rfl]
  have hs := lplain_comp (n := n) (w := w) (h := h) hl
  have he := ne_nil_ (l := w.cps.toList.filter fun c => !decide (c ∈ dig10)) (fun c hc => hw c (List.mem_filter.mp hc).1)
  rw [filter_nil_all (p := fun c => decide (c ∈ dig10))] at he
  generalize ((w.cps.toList.filter fun c => !decide (c ∈ dig10)).map sgn) = fl at hs he
  unfold numV
  by_cases h1 : 1 ≤ (w.length : Int)
  · by_cases h2 : (w.length : Int) ≤ 6
    · by_cases h3 : (w.cps.toList.all fun c => decide (c ∈ dig10)) = true
      · obtain ⟨c, g1, g2, g3⟩ := first_run h1 hl
        have g4 := eq_zero (hw c g3)
        have hi' := int_run h3 h1 h2
        rw [h3] at he ⊢
        rw [g2]
        have hsg : ∀ σ, E.see σ h (.fz (sgn c)) = some (sgn c) := fun σ => rfl
        generalize valN w = v at hi' ⊢
        generalize decide (c = 48) = zb at g4 ⊢
        by_cases h5 : 1 < (w.length : Int)
        · cases zb <;> simp [c_law_plain, args, len_str hl, h1, h2, hs, he, g1, hsg, g4, h5, hi', optU]
        · cases zb <;> simp [c_law_plain, args, len_str hl, h1, h2, hs, he, g1, hsg, g4, h5, hi', optU]
      · have h3' : (w.cps.toList.all fun c => decide (c ∈ dig10)) = false := by simpa using h3
        rw [h3'] at he ⊢
        simp [c_law_plain, args, len_str hl, h1, h2, hs, he, optU]
    · simp [c_law_plain, args, len_str hl, h1, h2, optU]
  · simp [c_law_plain, args, len_str hl, h1, optU]
/-- such a number is no greater than six nines -/
theorem val_lt : ∀ (l : List Nat) (a : Nat), PySem.NumText.AllDigits l → l.foldl (fun acc c => acc * 10 + (c - 48)) a < (a + 1) * 10 ^ l.length
  | [], a, _ => by simp
  | c :: r, a, h => by
    have hc := h c List.mem_cons_self
    have ih := val_lt r (a * 10 + (c - 48)) fun d hd => h d (List.mem_cons_of_mem _ hd)
    simp only [List.foldl_cons, List.length_cons]
    refine Nat.lt_of_lt_of_le ih ?_
    rw [Nat.pow_succ, Nat.mul_comm (10 ^ r.length) 10, ← Nat.mul_assoc]
    exact Nat.mul_le_mul_right _ (by omega)
theorem numV_le {w : Str} {i : Int} (h : numV w = some i) : 0 ≤ i ∧ i ≤ 999999 := by
  unfold numV at h
  split at h
  · rename_i hc
    simp only [Bool.and_eq_true, decide_eq_true_eq] at hc
    obtain ⟨c1, c2, c3⟩ := hc
    split at h
    · cases h
    · cases h
      have l : w.length = w.cps.toList.length := by simp [PySem.Str.length]
      have v := val_lt w.cps.toList 0 (digs_of c3)
      have p : 10 ^ w.cps.toList.length ≤ 10 ^ 6 := Nat.pow_le_pow_right (by decide) (by omega)
      unfold valN PySem.NumText.digitsVal
      omega
  · cases h
theorem num_all {w : Str} : within 0 999999 (numV w) = numV w := by
  cases e : numV w with
  | none => rfl
  | some i =>
    have := numV_le e
    show (if 0 ≤ i ∧ i ≤ 999999 then some i else none) = _
    rw [if_pos this]

theorem whole_int {n : Nat} {i lo hi : Int} {h : CH} : phi PG (n + 1) (.fn .n_is_whole) [.int i, .int lo, .int hi] h = .ok (.fz (.bl (decide (lo ≤ i) && decide (i ≤ hi)))) h := by
  rw [phi_fn (P := PG) (d := c_is_whole) rfl rfl]
  by_cases h1 : lo ≤ i
  · by_cases h2 : i ≤ hi <;> simp [c_is_whole, args, isTys, isTy, knd, knTy, tru, h1, h2]
  · simp [c_is_whole, args, isTys, isTy, knd, knTy, tru, h1]
theorem see_knd {u : U} {k : Kn} (h : knd u = some k) (σ : Slots) (hh : CH) : E.see σ hh (.fz u) = some u := by
  cases u <;> first | rfl | cases h
theorem whole_other {n : Nat} {u : U} {k : Kn} {lo hi : Int} {h : CH} (hk : knd u = some k) (h1 : k ≠ .int) : phi PG (n + 1) (.fn .n_is_whole) [u, .int lo, .int hi] h = .ok (.fz (.bl false)) h := by
  rw [phi_fn (P := PG) (d := c_is_whole) rfl rfl]
  have hs := see_knd hk
  cases k <;> first | exact absurd rfl h1 | simp [c_is_whole, args, hs, isTys, isTy, hk, knTy, tru]
theorem name_other {n : Nat} {u : U} {k : Kn} {h : CH} (hk : knd u = some k) (h1 : k ≠ .str) : phi PG (n + 1) (.fn .n_is_name) [u] h = .ok (.fz (.bl false)) h := by
  rw [phi_fn (P := PG) (d := c_is_name) rfl rfl]
  have hs := see_knd hk
  cases k <;> first | exact absurd rfl h1 | simp [c_is_name, args, hs, isTys, isTy, hk, knTy, tru]

/-- draws from the last cell: what stands then is a stream again -/
def Strm (xs : List U) (h : CH) : Prop := ∃ a b c, h = some (xs ++ [strm a b c])
theorem take_ex {n : Nat} {xs : List U} {h : CH} (m : Int) (hm : 0 < m) (hm2 : m.natAbs.log2 < 9000) (s : Strm xs h) : ∃ d h', phi PG (n + 1) (.fn .n_law_take) [.ref xs.length, .int m] h = .ok (.fz (.int d)) h' ∧ Strm xs h' ∧ 0 ≤ d ∧ d < m := by
  obtain ⟨a, b, c, rfl⟩ := s
  exact ⟨_, _, take_last (P := PG) rfl hm hm2, ⟨_, _, _, rfl⟩, draw_lo hm, draw_hi hm⟩

@[simp] theorem is_bl (a b : Bool) : cop .is_ (.bl a) (.bl b) = some (decide (a = b)) := rfl
@[simp] theorem isnot_bl (a b : Bool) : cop .isnot (.bl a) (.bl b) = some (!decide (a = b)) := rfl
theorem p31 : bop .pow (.int 10) (.int 31) = some (.fz (.int (10 ^ 31))) := by rfl
theorem p30 : bop .pow (.int 10) (.int 30) = some (.fz (.int (10 ^ 30))) := by rfl
theorem p29 : bop .pow (.int 10) (.int 29) = some (.fz (.int (10 ^ 29))) := by rfl
theorem wr_turn {n : Nat} {u : U} {k : Kn} {o0 o1 o2 o3 o4 : Option Sl} {h : CH} (hk : knd u = some k) (h1 : k ≠ .int) (h2 : phi PG (n + 1) (.fn .n_is_name) [u] h = .ok (.fz (.bl false)) h) :
    evB PG.toTop (phi PG (n + 1)) b_law_whole_right_0 [o0, o1, o2, o3, o4, some (.val u)] h = .next [o0, o1, o2, o3, o4, some (.val u)] h := by
  have e1 := whole_other (n := n) (u := u) (k := k) (lo := -2) (hi := 10 ^ 31) (h := h) hk h1
  have p := p31
  generalize (10 : Int) ^ 31 = z at e1 p
  simp [b_law_whole_right_0, p, e1, h2]

theorem low_no {c : Nat} (h : c < 97) : ¬ c ∈ low26 := by
  have e : low26 = [97, 98, 99, 100, 101, 102, 103, 104, 105, 106, 107, 108, 109, 110, 111, 112, 113, 114, 115, 116, 117, 118, 119, 120, 121, 122] := by decide +kernel
  rw [e]
  simp only [List.mem_cons, List.not_mem_nil, or_false]
  omega
theorem num_name (i : Int) : nameB (PySem.Str.ofString (toString i)) = false := by
  have key : ∃ c ∈ (PySem.Str.ofString (toString i)).cps.toList, c < 97 := by
    cases i with
    | ofNat n =>
      have e : (PySem.Str.ofString (toString ((n : Nat) : Int))).cps.toList = TL.numL n := TL.tl_num n
      obtain ⟨c, r, hc⟩ := List.exists_cons_of_ne_nil (TL.numL_ne n)
      refine ⟨c, ?_, ?_⟩
      · show c ∈ (PySem.Str.ofString (toString ((n : Nat) : Int))).cps.toList
        rw [e, hc]
        exact List.mem_cons_self
      · have := TL.numL_digits n c (by rw [hc]; exact List.mem_cons_self)
        omega
    | negSucc n =>
      refine ⟨45, ?_, by decide⟩
      show 45 ∈ (PySem.Str.ofString ("-" ++ toString (n + 1))).cps.toList
      rw [PySem.Str.ofString_eq_toList, String.toList_append]
      simp
  obtain ⟨c, hc, h⟩ := key
  have : ((PySem.Str.ofString (toString i)).cps.toList.all fun c => decide (c ∈ low26)) = false := by
    rw [List.all_eq_false]
    exact ⟨c, hc, by simp [low_no h]⟩
  unfold nameB
  rw [this]
  simp
end Mi
namespace Mi
open PySem (Str)
theorem str_int {i : Int} (h : i.natAbs.log2 < 1920) : bfun .str [.int i] = some (.fz (.str (PySem.Str.ofString (toString i)))) := by
  show (if i.natAbs.log2 < 1920 then some (E.fz (.str (PySem.Str.ofString (toString i)))) else none) = _
  rw [if_pos h]
theorem wr_for {n : Nat} {i : Int} {o0 o1 o2 o3 o4 o5 : Option Sl} {h : CH} (hl : (PySem.Str.ofString (toString i)).length ≤ line) : ∃ p5, goFor (.nm 5) (fun σ h => evB PG.toTop (phi PG (n + 1)) b_law_whole_right_0 σ h) [.bl true, .bl false, .non, .str (PySem.Str.ofString (toString i)), .lst [.int i], .tup [.int i], .dct []] [o0, o1, o2, o3, o4, o5] h = .next [o0, o1, o2, o3, o4, p5] h := by
  have t1 := wr_turn (n := n) (u := .bl true) (o0 := o0) (o1 := o1) (o2 := o2) (o3 := o3) (o4 := o4) (h := h) rfl (by decide) (name_other rfl (by decide))
  have t2 := wr_turn (n := n) (u := .bl false) (o0 := o0) (o1 := o1) (o2 := o2) (o3 := o3) (o4 := o4) (h := h) rfl (by decide) (name_other rfl (by decide))
  have t3 := wr_turn (n := n) (u := .non) (o0 := o0) (o1 := o1) (o2 := o2) (o3 := o3) (o4 := o4) (h := h) rfl (by decide) (name_other rfl (by decide))
  have t4 := wr_turn (n := n) (u := .str (PySem.Str.ofString (toString i))) (o0 := o0) (o1 := o1) (o2 := o2) (o3 := o3) (o4 := o4) (h := h) rfl (by decide) (by rw [name_run hl, num_name])
  have t5 := wr_turn (n := n) (u := .lst [.int i]) (o0 := o0) (o1 := o1) (o2 := o2) (o3 := o3) (o4 := o4) (h := h) rfl (by decide) (name_other rfl (by decide))
  have t6 := wr_turn (n := n) (u := .tup [.int i]) (o0 := o0) (o1 := o1) (o2 := o2) (o3 := o3) (o4 := o4) (h := h) rfl (by decide) (name_other rfl (by decide))
  have t7 := wr_turn (n := n) (u := .dct []) (o0 := o0) (o1 := o1) (o2 := o2) (o3 := o3) (o4 := o4) (h := h) rfl (by decide) (name_other rfl (by decide))
  generalize PySem.Str.ofString (toString i) = sw at t4 ⊢
  exact ⟨some (.val (.dct [])), by simp [goFor, t1, t2, t3, t4, t5, t6, t7]⟩
end Mi
namespace Mi
open PySem (Str)
theorem numL_len : ∀ (k n : Nat), n < 10 ^ (k + 1) → (TL.numL n).length ≤ k + 1
  | 0, n, h => by rw [TL.numL_lt (by simpa using h)]; simp
  | k + 1, n, h => by
    by_cases h10 : n < 10
    · rw [TL.numL_lt h10]; simp
    · rw [TL.numL_step (by omega)]
      have := numL_len k (n / 10) (by rw [Nat.pow_succ] at h; omega)
      simp
      omega
theorem num_len {i : Int} (h : i.natAbs < 10 ^ 100) : (PySem.Str.ofString (toString i)).length ≤ line := by
  have l : ∀ x : Str, x.length = x.cps.toList.length := fun x => by simp [PySem.Str.length]
  rw [l]
  cases i with
  | ofNat n =>
    have e : (PySem.Str.ofString (toString ((n : Nat) : Int))).cps.toList = TL.numL n := TL.tl_num n
    show (PySem.Str.ofString (toString ((n : Nat) : Int))).cps.toList.length ≤ line
    rw [e]
    have := numL_len 99 n h
    unfold line; omega
  | negSucc n =>
    have e : (PySem.Str.ofString (toString (((n + 1 : Nat) : Nat) : Int))).cps.toList = TL.numL (n + 1) := TL.tl_num (n + 1)
    have e2 : (PySem.Str.ofString (toString (n + 1))).cps.toList = TL.numL (n + 1) := e
    show (PySem.Str.ofString ("-" ++ toString (n + 1))).cps.toList.length ≤ line
    rw [PySem.Str.ofString_eq_toList] at e2 ⊢
    rw [String.toList_append]
    simp only [List.map_append, List.length_append, List.toList_toArray] at e2 ⊢
    rw [e2]
    have := numL_len 99 (n + 1) h
    have q : (List.map Char.toNat "-".toList).length = 1 := by decide +kernel
    rw [q]
    unfold line; omega
end Mi
namespace Mi
open PySem (Str)
@[simp] theorem ne_bl (a b : Bool) : cop .ne (.bl a) (.bl b) = some (!(a == b)) := rfl
@[simp] theorem evE_dct0 (T : Top) (φ : Phi) (σ : Slots) (h : CH) : evE T φ σ (.dct [] []) h = .ok (.own (.dct [])) h := rfl
def wrTail : List CS := c_law_whole_right.body.drop 2
theorem wr_tail {n : Nat} {xs : List U} {h : CH} {i : Int} (hi : i.natAbs < 10 ^ 100) (s : Strm xs h) : ∃ h', evB PG.toTop (phi PG (n + 1)) wrTail [some (.val (.ref xs.length)), some (.val (.int i)), none, none, none, none] h = .ret (.fz (.bl true)) h' ∧ Strm xs h' := by
  obtain ⟨d1, h1, e1, s1, a1, b1⟩ := take_ex (n := n) 4 (by decide) (by decide +kernel) s
  obtain ⟨d2, h2, e2, s2, a2, b2⟩ := take_ex (n := n) 4 (by decide) (by decide +kernel) s1
  have w1 := whole_int (n := n) (i := i) (lo := i + d1 - 2) (hi := i + d2 - 1) (h := h2)
  have w2 := whole_int (n := n) (i := i) (lo := i) (hi := i) (h := h2)
  have w3 := whole_int (n := n) (i := i) (lo := i + 1) (hi := i + 9) (h := h2)
  have z2 : (decide (i ≤ i) && decide (i ≤ i)) = true := by simp
  have z3 : (decide (i + 1 ≤ i) && decide (i ≤ i + 9)) = false := by
    have q : ¬ (i + 1 ≤ i) := by omega
    simp [q]
  rw [z2] at w2
  rw [z3] at w3
  have hn := num_len hi
  have hs := str_int (i := i) (Nat.lt_trans (log_lt (k := 400) (Nat.lt_of_lt_of_le hi (by decide +kernel)) (by decide)) (by decide))
  have nm := name_other (n := n) (u := .int i) (h := h2) rfl (by decide)
  obtain ⟨p5, f⟩ := wr_for (n := n) (i := i) (o0 := some (.val (.ref xs.length))) (o1 := some (.val (.int i))) (o2 := some (.val (.int (i + d1 - 2)))) (o3 := some (.val (.int (i + d2 - 1)))) (o4 := some (.val (.bl (decide (i + d1 - 2 ≤ i) && decide (i ≤ i + d2 - 1))))) (o5 := none) (h := h2) hn
  refine ⟨h2, ?_, s2⟩
  generalize PySem.Str.ofString (toString i) = sw at hs f
  generalize hlo : i + d1 - 2 = lo at w1 f
  generalize hhi : i + d2 - 1 = hi' at w1 f
  by_cases q1 : lo ≤ i
  · by_cases q2 : i ≤ hi'
    · simp [q1, q2] at w1 f
      simp [wrTail, c_law_whole_right, e1, e2, setS, w1, w2, w3, isTys, isTy, knd, knTy, tru, ev1_for, hs, E.src, itemsU, f, nm, hlo, hhi, q1, q2]
    · simp [q1, q2] at w1 f
      simp [wrTail, c_law_whole_right, e1, e2, setS, w1, w2, w3, isTys, isTy, knd, knTy, tru, ev1_for, hs, E.src, itemsU, f, nm, hlo, hhi, q1, q2]
  · simp [q1] at w1 f
    simp [wrTail, c_law_whole_right, e1, e2, setS, w1, w2, w3, isTys, isTy, knd, knTy, tru, ev1_for, hs, E.src, itemsU, f, nm, hlo, hhi, q1]
end Mi
namespace Mi
open PySem (Str)
theorem take_wp {n : Nat} {xs : List U} {h : CH} {m : Int} {X : XC} {Q : E → CH → Prop} (hm : 0 < m) (hm2 : m.natAbs.log2 < 9000) (s : Strm xs h) (q : ∀ d h', Strm xs h' → 0 ≤ d → d < m → Q (.fz (.int d)) h') : WP X (phi PG (n + 1) (.fn .n_law_take) [.ref xs.length, .int m] h) Q := by
  obtain ⟨d, h', e, s', a, b⟩ := take_ex (n := n) m hm hm2 s
  rw [e]
  exact q d h' s' a b
local macro_rules | `(tactic| walk_at "args") => `(tactic| simp only [args, List.map_cons, List.map_nil, List.length_cons, List.length_nil, Nat.reduceAdd, Nat.reduceSub, List.replicate_succ, List.replicate_zero, List.cons_append, List.nil_append])
local macro_rules | `(tactic| walk_at "mi") => `(tactic| simp -dsimp [setS, p30, p29, -Int.reducePow])
theorem wr_run {n : Nat} {xs : List U} {h : CH} (s : Strm xs h) : WP noX (phi PG (n + 2) (.fn .n_law_whole_right) [.ref xs.length] h) fun e h' => e = .fz (.bl true) ∧ Strm xs h' := by
  refine WP_fn (d := c_law_whole_right) rfl rfl ?_
  unfold c_law_whole_right; walk_at "args"
  refine WS_cut 2 (fun σ h' => ∃ i : Int, i.natAbs < 10 ^ 100 ∧ σ = [some (.val (.ref xs.length)), some (.val (.int i)), none, none, none, none] ∧ Strm xs h') ?_ ?_
  · simp only [List.take]
    walk_at "mi"
    refine take_wp ?a ?b s fun d1 h1 s1 a1 b1 => ?_
    case a => decide
    case b => decide +kernel
    walk_at "mi"
    refine take_wp ?a ?b s1 fun d2 h2 s2 a2 b2 => ?_
    case a => decide
    case b => decide +kernel
    walk_at "mi"
    have hv : ∃ v : Int, v.natAbs ≤ 10 ^ 30 ∧ L2.atI [U.int 0, U.int (10 ^ 30), U.int (5 * 10 ^ 29)] d2 = some (.int v) := by
      have : d2 = 0 ∨ d2 = 1 ∨ d2 = 2 := by omega
      rcases this with rfl | rfl | rfl
      · exact ⟨0, by decide, by rw [atI0]⟩
      · exact ⟨10 ^ 30, by decide +kernel, by rw [atI1]⟩
      · exact ⟨5 * 10 ^ 29, by decide +kernel, by rw [atI2]⟩
    obtain ⟨v, hv, ev⟩ := hv
    refine ⟨_, ev, ?_⟩
    walk_at "mi"
    refine take_wp ?a ?b s2 fun d3 h3 s3 a3 b3 => ?_
    case a => decide
    case b => decide +kernel
    walk_at "mi"
    refine ⟨fun _ => ?_, fun _ => ⟨_, ?_, rfl, s3⟩⟩
    · refine take_wp ?a ?b s3 fun d4 h4 s4 a4 b4 => ?_
      case a => decide
      case b => decide +kernel
      walk_at "mi"
      refine ⟨_, ?_, rfl, s4⟩
      have : (10 : Nat) ^ 100 > 100 := by decide +kernel
      omega
    · have q : (10 : Int) ^ 30 = ((10 ^ 30 : Nat) : Int) := by decide +kernel
      rw [q] at b1
      have r : (10 : Nat) ^ 30 + 10 ^ 30 < 10 ^ 100 := by decide +kernel
      omega
  · rintro σ h' ⟨i, hi, rfl, s'⟩
    obtain ⟨h2, e, s2⟩ := wr_tail (n := n) hi s'
    simp only [wrTail, c_law_whole_right] at e
    simp only [List.drop] at e ⊢
    rw [e]
    exact ⟨rfl, s2⟩
end Mi
namespace Mi
open PySem (Str)
local macro_rules | `(tactic| walk_at "args") => `(tactic| simp only [args, List.map_cons, List.map_nil, List.length_cons, List.length_nil, Nat.reduceAdd, Nat.reduceSub, List.replicate_succ, List.replicate_zero, List.cons_append, List.nil_append])
local macro_rules | `(tactic| walk_at "mi") => `(tactic| simp -dsimp [setS, -Int.reducePow])
theorem T_nil : ("" : Str) = T [] := rfl
theorem spoilt_wp {n k : Nat} {xs : List U} {h : CH} {l sg : List Nat} {Q : E → CH → Prop} (hl : okL k l) (hk : k ≤ 100) (hs : okL 20 sg) (h0 : 0 < sg.length) (s : Strm xs h) (q : ∀ l' h', okL (k + 1) l' → Strm xs h' → Q (.fz (.str (T l'))) h') :
    WP noX (phi PG (n + 2) (.fn .n_law_spoilt) [.ref xs.length, .str (T l), .str (T sg)] h) Q := by
  have hl1 := hl.1
  have hs1 := hs.1
  have ll : l.length ≤ line := by unfold line; omega
  have ls : sg.length ≤ line := by unfold line; omega
  have ok0 : okL 0 [] := ⟨by simp, by simp⟩
  refine WP_fn (d := c_law_spoilt) rfl rfl ?_
  unfold c_law_spoilt; walk_at "args"
  simp -dsimp [setS, T_nil, neT hl ok0, ws_retv, lenT ll, lenT ls]
  by_cases hne : l = []
  · simp -dsimp [hne]
    subst hne
    exact q _ _ ⟨by simp, by simp⟩ s
  · simp -dsimp [hne]
    have h1 : 0 < l.length := List.length_pos_iff.mpr hne
    refine take_wp ?a ?b s fun d1 h1 s1 a1 b1 => ?_
    case a => decide
    case b => decide +kernel
    simp -dsimp [setS, lenT ll]
    refine ⟨fun _ => ?_, fun _ => q l h1 ⟨by omega, hl.2⟩ s1⟩
    refine take_wp ?a ?b s1 fun d2 h2 s2 a2 b2 => ?_
    case a => omega
    case b => exact Nat.lt_trans (log_lt (k := 40) (by omega) (by decide)) (by decide)
    simp -dsimp [setS, slicedT ll, lenT ls]
    refine take_wp ?a ?b s2 fun d3 h3 s3 a3 b3 => ?_
    case a => omega
    case b => exact Nat.lt_trans (log_lt (k := 40) (by omega) (by decide)) (by decide)
    obtain ⟨c, hc, ec⟩ := atI_in a3 b3
    have c1 := cut_len l none (some d2)
    have c2 := cut_len l (some (d2 + 1)) none
    have e1 : bop .add (.str (T (cut l none (some d2)))) (.str (T [c])) = _ := bop_addT (by unfold line; simp; omega)
    have e2 : bop .add (.str (T (cut l none (some d2) ++ [c]))) (.str (T (cut l (some (d2 + 1)) none))) = _ := bop_addT (by unfold line; simp; omega)
    simp -dsimp [getIxT ls, ec, slicedT ll, e1, e2]
    refine q _ _ ⟨?_, ?_⟩ s3
    · obtain ⟨k2, rfl⟩ := Int.eq_ofNat_of_zero_le a2
      have hk2 : k2 < l.length := by omega
      have z1 : HT.sIx l.length 0 none = 0 := rfl
      have z2 : HT.sIx l.length l.length (some (k2 : Int)) = min k2 l.length := HT.sIx_nat ..
      have z3 : HT.sIx l.length 0 (some ((k2 : Int) + 1)) = min (k2 + 1) l.length := HT.sIx_nat _ _ (k2 + 1)
      have z4 : HT.sIx l.length l.length none = l.length := rfl
      simp only [cut, z1, z2, z3, z4, List.length_append, List.length_take, List.length_drop, List.length_cons, List.length_nil]
      omega
    · intro x hx
      simp only [List.mem_append, List.mem_cons, List.not_mem_nil, or_false] at hx
      rcases hx with hx | rfl | hx
      · exact hl.2 _ (cut_mem hx)
      · exact hs.2 _ hc
      · exact hl.2 _ (cut_mem hx)
end Mi
namespace Mi
open PySem (Str)
local macro_rules | `(tactic| walk_at "args") => `(tactic| simp only [args, List.map_cons, List.map_nil, List.length_cons, List.length_nil, Nat.reduceAdd, Nat.reduceSub, List.replicate_succ, List.replicate_zero, List.cons_append, List.nil_append])
theorem T_low : ("abcdefghijklmnopqrstuvwxyz" : Str) = T low26 := by decide +kernel
theorem T_dig : ("0123456789" : Str) = T dig10 := by decide +kernel
theorem ok_low : okL 26 low26 := ⟨by decide +kernel, by decide +kernel⟩
theorem ok_dig : okL 10 dig10 := ⟨by decide +kernel, by decide +kernel⟩
theorem low_len : low26.length = 26 := by decide +kernel
theorem dig_len : dig10.length = 10 := by decide +kernel
def isOne (u : U) : Prop := ∃ c : Nat, c < 0x110000 ∧ u = .str (T [c])
theorem flat_ok {as : List Nat} {m : Nat} (hl : as.length ≤ m) (h : ∀ a ∈ as, a < 0x110000) : okL m as := ⟨hl, h⟩
theorem wp_range {X : XC} {T : Top} {φ : Phi} {σ : Slots} {h : CH} {st : Bool} {es : List CE} {Q : List U → CH → Prop} : WP X (evI T φ st σ (.range es) h) Q = WP X (evK T φ σ es h) fun us h => WP X (ofOpt (rangeOf us) h) Q := by
  rw [evI_range, WP_bind]
theorem letters_wp {n : Nat} {xs : List U} {h : CH} {Q : E → CH → Prop} (s : Strm xs h) (q : ∀ l' h', okL 20 l' → Strm xs h' → Q (.fz (.str (T l'))) h') :
    WP noX (phi PG (n + 3) (.fn .n_law_letters) [.ref xs.length] h) Q := by
  refine WP_fn (d := c_law_letters) rfl rfl ?_
  unfold c_law_letters; walk_at "args"
  refine WS_cut 2 (fun σ h' => ∃ l, okL 10 l ∧ σ = [some (.val (.ref xs.length)), some (.val (.str (T low26))), some (.val (.str (T l))), none] ∧ Strm xs h') ?_ ?_
  · simp only [List.take]
    simp -dsimp [setS, T_nil, T_low, k_law_letters_0, wp_comp, wp_range]
    refine take_wp ?a ?b s fun d1 h1 s1 a1 b1 => ?_
    case a => decide
    case b => decide +kernel
    simp -dsimp [range_of (i := d1) (by omega) (by omega)]
    refine WP_goCompR (Strm xs) isOne s1 (fun x hx h2 s2 => ?_) fun ys h2 s2 hl hy => ?_
    · obtain ⟨k, hk, rfl⟩ := rangeU_mem hx
      simp -dsimp [compF]
      refine take_wp ?a ?b s2 fun d2 h3 s3 a3 b3 => ?_
      case a => decide
      case b => decide +kernel
      obtain ⟨c, hc, ec⟩ := atI_in (xs := low26) a3 (by rw [low_len]; exact b3)
      simp -dsimp [getIxT (l := low26) (by rw [low_len]; decide), ec, isOne]
      exact ⟨ok_low.2 _ hc, s3⟩
    · rw [rangeU_len] at hl
      obtain ⟨as, rfl, pa⟩ := map_of (f := fun c => U.str (T [c])) (P := fun c => c < 0x110000) hy
      rw [List.length_map] at hl
      have lf : as.length ≤ line := by unfold line; omega
      simp -dsimp [joinT1 lf]
      exact ⟨as, ⟨by omega, pa⟩, rfl, s2⟩
  · rintro σ h' ⟨l, hl, rfl, s'⟩
    simp only [List.drop]
    have es : ("AZ0 _`{|.-" : Str) = T ("AZ0 _`{|.-" : Str).cps.toList := T_eta _
    simp -dsimp
    rw [es]
    refine spoilt_wp (k := 10) hl (by decide) ⟨by decide +kernel, by decide +kernel⟩ (by decide +kernel) s' fun l' h2 o2 s2 => ?_
    exact q l' h2 ⟨by have := o2.1; omega, o2.2⟩ s2
theorem figures_wp {n : Nat} {xs : List U} {h : CH} {Q : E → CH → Prop} (s : Strm xs h) (q : ∀ l' h', okL 20 l' → Strm xs h' → Q (.fz (.str (T l'))) h') :
    WP noX (phi PG (n + 3) (.fn .n_law_figures) [.ref xs.length] h) Q := by
  refine WP_fn (d := c_law_figures) rfl rfl ?_
  unfold c_law_figures; walk_at "args"
  refine WS_cut 1 (fun σ h' => ∃ l, okL 10 l ∧ σ = [some (.val (.ref xs.length)), some (.val (.str (T l))), none] ∧ Strm xs h') ?_ ?_
  · simp only [List.take]
    simp -dsimp [setS, T_nil, T_dig, k_law_figures_0, wp_comp, wp_range]
    refine take_wp ?a ?b s fun d1 h1 s1 a1 b1 => ?_
    case a => decide
    case b => decide +kernel
    simp -dsimp [range_of (i := d1) (by omega) (by omega)]
    refine WP_goCompR (Strm xs) isOne s1 (fun x hx h2 s2 => ?_) fun ys h2 s2 hl hy => ?_
    · obtain ⟨k, hk, rfl⟩ := rangeU_mem hx
      simp -dsimp [compF]
      refine take_wp ?a ?b s2 fun d2 h3 s3 a3 b3 => ?_
      case a => decide
      case b => decide +kernel
      obtain ⟨c, hc, ec⟩ := atI_in (xs := dig10) a3 (by rw [dig_len]; exact b3)
      simp -dsimp [getIxT (l := dig10) (by rw [dig_len]; decide), ec, isOne]
      exact ⟨ok_dig.2 _ hc, s3⟩
    · rw [rangeU_len] at hl
      obtain ⟨as, rfl, pa⟩ := map_of (f := fun c => U.str (T [c])) (P := fun c => c < 0x110000) hy
      rw [List.length_map] at hl
      have lf : as.length ≤ line := by unfold line; omega
      simp -dsimp [joinT1 lf]
      exact ⟨as, ⟨by omega, pa⟩, rfl, s2⟩
  · rintro σ h' ⟨l, hl, rfl, s'⟩
    simp only [List.drop]
    have es : ("-+ .,/:x_" : Str) = T ("-+ .,/:x_" : Str).cps.toList := T_eta _
    have e0 : ("0" : Str) = T [48] := by decide +kernel
    have la := hl.1
    have e1 : bop .add (.str (T [48])) (.str (T l)) = _ := bop_addT (by unfold line; simp; omega)
    refine WS_cut 1 (fun σ h' => ∃ l, okL 11 l ∧ σ = [some (.val (.ref xs.length)), some (.val (.str (T l))), none] ∧ Strm xs h') ?_ ?_
    · simp only [List.take]
      simp -dsimp
      refine take_wp ?a ?b s' fun d1 h1 s1 a1 b1 => ?_
      case a => decide
      case b => decide +kernel
      simp -dsimp [setS, e0, e1]
      refine ⟨fun _ => ⟨_, ⟨by simp; omega, ?_⟩, rfl, s1⟩, fun _ => ⟨_, ⟨by omega, hl.2⟩, rfl, s1⟩⟩
      intro c hc
      simp only [List.mem_cons] at hc
      rcases hc with rfl | hc
      · decide
      · exact hl.2 c hc
    · rintro σ h' ⟨l, hl, rfl, s'⟩
      simp only [List.drop]
      simp -dsimp
      rw [es]
      refine spoilt_wp (k := 11) hl (by decide) ⟨by decide +kernel, by decide +kernel⟩ (by decide +kernel) s' fun l' h2 o2 s2 => ?_
      exact q l' h2 ⟨by have := o2.1; omega, o2.2⟩ s2
end Mi
namespace Mi
open PySem (Str)
local macro_rules | `(tactic| walk_at "args") => `(tactic| simp only [args, List.map_cons, List.map_nil, List.length_cons, List.length_nil, Nat.reduceAdd, Nat.reduceSub, List.replicate_succ, List.replicate_zero, List.cons_append, List.nil_append])
@[simp] theorem see_optU (σ : Slots) (h : CH) (o : Option Int) : E.see σ h (.fz (optU o)) = some (optU o) := by cases o <;> rfl
@[simp] theorem ne_optU (o p : Option Int) : cop .ne (optU o) (optU p) = some (!decide (o = p)) := by
  cases o <;> cases p <;> simp [optU, cop, dat, eqb]
  rename_i a b
  by_cases h : a = b <;> simp [h]
@[simp] theorem isNon_optU (o : Option Int) : isNon (optU o) = o.isNone := by cases o <;> rfl
theorem knd_optU (o : Option Int) : (knd (optU o)).map (fun k => knTy k .bool) = some false := by cases o <;> rfl
theorem number_right_wp {n : Nat} {xs : List U} {h : CH} {Q : E → CH → Prop} (s : Strm xs h) (q : ∀ h', Strm xs h' → Q (.fz (.bl true)) h') :
    WP noX (phi PG (n + 4) (.fn .n_law_number_right) [.ref xs.length] h) Q := by
  refine WP_fn (d := c_law_number_right) rfl rfl ?_
  unfold c_law_number_right; walk_at "args"
  simp -dsimp
  refine figures_wp (n := n) s fun l h1 o s1 => ?_
  have hl : (T l).length ≤ line := by rw [T_len]; have := o.1; unfold line; omega
  have hw : ∀ c ∈ (T l).cps.toList, c < 0x110000 := by rw [T_cps]; exact o.2
  have pl := fun h => plain_run (n := n + 2) (w := T l) (h := h) hl hw
  have ni := fun lo hi h => number_in_run (n := n + 2) (w := T l) (lo := lo) (hi := hi) (h := h) hl hw
  have na := num_all (w := T l)
  generalize numV (T l) = v at pl ni na
  simp -dsimp [setS, pl, ni, na]
  cases v with
  | none =>
    simp -dsimp [optU, ws_retv]
    exact q _ s1
  | some i =>
    have w1 : within i i (some i) = some i := by simp [within]
    have w2 : within (i + 1) 999999 (some i) = none := by simp [within]; omega
    have w3 : within 0 (i - 1) (some i) = none := by simp [within]; omega
    have hf : ∀ j, E.fz (U.int j) = .fz (optU (some j)) := fun j => rfl
    simp -dsimp [optU, ni, w1, w2, w3]
    exact ⟨fun e => (by cases e), fun _ => q _ s1⟩
theorem lname_T {n : Nat} {l : List Nat} {h : CH} (o : okL 20 l) : phi PG (n + 1) (.fn .n_law_is_name) [.str (T l)] h = .ok (.fz (.bl (nameB (T l)))) h := lname_run (by rw [T_len]; have := o.1; unfold line; omega) (by rw [T_cps]; exact o.2)
theorem name_T {n : Nat} {l : List Nat} {h : CH} (o : okL 20 l) : phi PG (n + 1) (.fn .n_is_name) [.str (T l)] h = .ok (.fz (.bl (nameB (T l)))) h := name_run (by rw [T_len]; have := o.1; unfold line; omega)
theorem plain_T {n : Nat} {l : List Nat} {h : CH} (o : okL 20 l) : phi PG (n + 1) (.fn .n_law_plain) [.str (T l)] h = .ok (.fz (optU (numV (T l)))) h := plain_run (by rw [T_len]; have := o.1; unfold line; omega) (by rw [T_cps]; exact o.2)
theorem num_T {n : Nat} {l : List Nat} {lo hi : Int} {h : CH} (o : okL 20 l) : phi PG (n + 1) (.fn .n_number_in) [.str (T l), .int lo, .int hi] h = .ok (.fz (optU (within lo hi (numV (T l))))) h := number_in_run (by rw [T_len]; have := o.1; unfold line; omega) (by rw [T_cps]; exact o.2)
theorem runs (ns : List Int) (hn : ns.length ≤ 63) : ∃ h, phi PG 8 (.fn .n_law) [.scr ns] (some []) = .ok (.fz (.bl true)) h := by
  have key : WP noX (phi PG (7 + 1) (.fn .n_law) [.scr ns] (some [])) fun e h => e = .fz (.bl true) := by
    refine WP_fn (d := c_law) rfl rfl ?_
    unfold c_law; walk_at "args"
    have hr : 0 ≤ max 1 (min 40 (ns.length : Int)) ∧ max 1 (min 40 (ns.length : Int)) ≤ 16777216 := by omega
    simp -dsimp [ws_for, wp_range, range_of hr.1 hr.2]
    refine WS_for (fun xs σ h => (∀ x ∈ xs, ∃ k : Nat, x = .int k) ∧ (∃ ys, h = some ys) ∧ ∃ o1 o2 o3 o4, σ = [some (.val (.scr ns)), o1, o2, o3, o4]) ⟨fun x hx => ?_, ⟨_, rfl⟩, _, _, _, _, rfl⟩ ?_ ?_
    · obtain ⟨k, _, rfl⟩ := rangeU_mem hx
      exact ⟨k, by simp⟩
    · rintro x r σ h ⟨hx, ⟨ys, rfl⟩, o1, o2, o3, o4, rfl⟩
      obtain ⟨k, rfl⟩ := hx x List.mem_cons_self
      have hx' := fun y hy => hx y (List.mem_cons_of_mem _ hy)
      refine ⟨_, rfl, ?_⟩
      unfold b_law_0
      simp -dsimp [cell_run (P := PG) (n := 6) rfl, stream_run (P := PG) (n := 6) rfl, setS]
      refine WP_imp (wr_run (n := 5) (xs := ys) ⟨_, _, _, rfl⟩) ?_
      rintro _ h1 ⟨rfl, s1⟩
      simp -dsimp
      refine number_right_wp (n := 3) s1 fun h2 s2 => ?_
      simp -dsimp
      refine letters_wp (n := 4) s2 fun l h3 o s3 => ?_
      simp -dsimp [setS, name_T o, lname_T o, plain_T o, num_T o, num_all, knTy]
      obtain ⟨a, b, c, e⟩ := s3
      exact ⟨hx', _, e⟩
    · rintro σ h ⟨_, _, o1, o2, o3, o4, rfl⟩
      have e0 : ("" : Str) = T [] := rfl
      have e1 : ("0" : Str) = T [48] := by decide +kernel
      have k0 : okL 20 [] := ⟨by simp, by simp⟩
      have k1 : okL 20 [48] := ⟨by simp, by simp⟩
      have v0 : numV (T []) = none := by decide +kernel
      have v1 : numV (T [48]) = some 0 := by decide +kernel
      have b0 : nameB (T []) = false := by decide +kernel
      simp -dsimp [e0, e1, name_T k0, num_T k0, num_T k1, v0, v1, b0, within, optU]
  obtain ⟨e, h, q, rfl⟩ := WP_get key
  exact ⟨h, q⟩
end Mi
namespace Mi
open PySem PySem.Spec L2
abbrev R : PySem.W.OpenRow := PySem.W.OpenLaw.row PySem.Challenge.rw_weirwatch_k01_words_told
abbrev hk : PySem.W.Hook := He.hookD 4 (fas nms dds cs) (dds.map (·.d))
def ob (s : PySem.W.SharedT) : He.AlD := He.obsDG 4 (fas nms dds cs) (dds.map (·.d)) (HandSHeadRun.getT s)
theorem ob_eq (s : PySem.W.SharedT) : ob s = hk.obs s.abs := He.obsDG_eq (HandSHeadRun.getT_eq s)
theorem run (w : World) : HandSHeadRun.RunEq R (PySem.W.view R.prog [19]) hk ob 60000 names w := by
  intro os
  kernel_rfl
end Mi
open PySem PySem.W PySem.Calls PyProof.Rows
theorem PySem.Challenge.cw_weirwatch_k01_words_told_holds : PySem.Challenge.rw_weirwatch_k01_words_told.Holds := by
  w_on; o_law
  refine HandSHeadRun.head_any (r := Mi.R) (q := view Mi.R.prog [19]) (H := Mi.hk) (ob := Mi.ob) (M := 60000) (loose := Mi.names) (d := HandSHeadRun.topDef Mi.R.prog 19) (kwd := []) Mi.ob_eq
    (by kernel_rfl) (fun s => by kernel_rfl) Mi.run (by kernel_rfl) (by kernel_rfl) (by kernel_rfl) (by rfl) (by first | assumption | decide +kernel) (by decide +kernel) ⟨rfl, rfl, rfl, rfl, rfl, by decide +kernel⟩ ?hw ?hc
  case hw => w_witness2
  case hc => exact Mi.law_walk (l := PySem.Challenge.rw_weirwatch_k01_words_told) (dds := Mi.dds) (nm := Mi.nms) (cs := Mi.cs) (kind := fun _ => .own) (m := 63) (n := 8) (f := .n_law) (x := Mi.d_law) (param := "_law_script") (hob := 4) rfl (by decide) (by kernel_rfl) ⟨rfl, by decide, by decide⟩ Mi.okAll (by decide) (by kernel_rfl) rfl (by kernel_rfl) Mi.runs

