import PyProof.Rows.All
import Wide.All
import OpenK.AllK
import Wide.FinOn
import KE.KStateDown
import KE.KNest
import KE.KNestM
import HandS.ForMost
import HandS.Exc
import HandS.Defaults
import HandS.Head0
import HandS.Head1
import HandS.Head2
import HandS.HeadEnd
import HandS.HeadHook1
import HandS.HeadHook2
import HandS.HeadHook3
import HandS.HeadHook4
import PySem.Challenge.RW_livingclock_k67_whole_backs
import PyProof.EqAt
import PyProof.EqKinds
import PyProof.TupleCall
import HandS.AnyAll
import HandS.TupAny
import HandS.IsInst
import HandS.Style
import KE.GoesNew
import HandS.DictComp
import KE.SortData
import KE.KTupSum
import HandS.SetFor
import HandS.Conv
import HandS.Strs
import HandS.Nested
import HandS.DictTup
import KE.KDictWalk
import KE.GoesZip
import KE.KDictZip
import HandS.ExcOwn
import HandS.WordsExc
import HandS.HeadWalk
import HandS.NestedK
import HandS.EndTab
set_option Elab.async false
set_option autoImplicit false
set_option linter.all false
section
set_option Elab.async false
set_option linter.all false
set_option maxRecDepth 100000
set_option maxHeartbeats 0
namespace LHead
open PySem PySem.Spec PyProof.Rows L2
def top (i : Nat) : Stmt := PySem.Challenge.pw_livingclock_k67_whole_backs.main.body.getD i (.Pass ⟨0, 0, 0, 0⟩)

abbrev st_is_number : Stmt := top 12
abbrev st_are_rising : Stmt := top 13
abbrev st_are_editions : Stmt := top 14
abbrev st_are_touches : Stmt := top 15
abbrev st_are_gaps : Stmt := top 16
abbrev st_is_entry : Stmt := top 17
abbrev st_is_book : Stmt := top 18
abbrev st_need_clock : Stmt := top 19
abbrev st_need_tick : Stmt := top 20
abbrev st_every_exchange : Stmt := top 21
abbrev st_least_needed : Stmt := top 22
abbrev st_phases_of : Stmt := top 23
abbrev st_plan_of : Stmt := top 25
abbrev st_needs_of : Stmt := top 27
abbrev st_every_lean : Stmt := top 28
abbrev st_gap_from : Stmt := top 29
abbrev st_above_touches : Stmt := top 30
abbrev st_pushed : Stmt := top 31
abbrev st_least_ticks : Stmt := top 33
abbrev st_earliest : Stmt := top 34
abbrev st_need_before : Stmt := top 37
abbrev st_gap_to : Stmt := top 38
abbrev st_pulled : Stmt := top 39
abbrev st_most_ticks : Stmt := top 40
abbrev st_latest : Stmt := top 41
abbrev st_need_standing : Stmt := top 43
abbrev st_still_to_do : Stmt := top 44
abbrev st_next_touch : Stmt := top 45
abbrev st_due_ticks : Stmt := top 46
abbrev st_rest_ticks : Stmt := top 47
abbrev st_rest_of : Stmt := top 48
abbrev st_need_midst : Stmt := top 49
abbrev st_rest : Stmt := top 50
abbrev st_mirror_of : Stmt := top 52
abbrev st_mirror : Stmt := top 53
abbrev st_backwards : Stmt := top 54
abbrev st_cut_to : Stmt := top 55
abbrev st_led : Stmt := top 56
abbrev st_flipped : Stmt := top 57
abbrev st_back_of : Stmt := top 58
abbrev st_need_goal : Stmt := top 59
abbrev st_led_on : Stmt := top 60
abbrev st_led_back : Stmt := top 61
abbrev st_law_taken : Stmt := top 63
abbrev st_law_pick : Stmt := top 64
abbrev st_law_alike : Stmt := top 65
abbrev st_law_clock : Stmt := top 66
abbrev st_law_need : Stmt := top 67
abbrev st_law_flat : Stmt := top 68
abbrev st_law_up : Stmt := top 69
abbrev st_law_goes : Stmt := top 70
abbrev st_law_ways : Stmt := top 71
abbrev st_law_best : Stmt := top 72
abbrev st_law : Stmt := top 73
def d_is_number : He.DefD := ⟨("is_number", none), "is_number", "is_number", defArgs st_is_number, defBody st_is_number, defScope st_is_number, [], []⟩
def d_are_rising : He.DefD := ⟨("are_rising", none), "are_rising", "are_rising", defArgs st_are_rising, defBody st_are_rising, defScope st_are_rising, [], []⟩
def d_are_editions : He.DefD := ⟨("are_editions", none), "are_editions", "are_editions", defArgs st_are_editions, defBody st_are_editions, defScope st_are_editions, [], []⟩
def d_are_touches : He.DefD := ⟨("are_touches", none), "are_touches", "are_touches", defArgs st_are_touches, defBody st_are_touches, defScope st_are_touches, [], []⟩
def d_are_gaps : He.DefD := ⟨("are_gaps", none), "are_gaps", "are_gaps", defArgs st_are_gaps, defBody st_are_gaps, defScope st_are_gaps, [], []⟩
def d_is_entry : He.DefD := ⟨("is_entry", none), "is_entry", "is_entry", defArgs st_is_entry, defBody st_is_entry, defScope st_is_entry, [], []⟩
def d_is_book : He.DefD := ⟨("is_book", none), "is_book", "is_book", defArgs st_is_book, defBody st_is_book, defScope st_is_book, [], []⟩
def d_need_clock : He.DefD := ⟨("need_clock", none), "need_clock", "need_clock", defArgs st_need_clock, defBody st_need_clock, defScope st_need_clock, [], []⟩
def d_need_tick : He.DefD := ⟨("need_tick", none), "need_tick", "need_tick", defArgs st_need_tick, defBody st_need_tick, defScope st_need_tick, [.int 0, .int (10 ^ 30)], []⟩
def d_every_exchange : He.DefD := ⟨("every_exchange", none), "every_exchange", "every_exchange", defArgs st_every_exchange, defBody st_every_exchange, defScope st_every_exchange, [], []⟩
def d_least_needed : He.DefD := ⟨("least_needed", none), "least_needed", "least_needed", defArgs st_least_needed, defBody st_least_needed, defScope st_least_needed, [], []⟩
def d_phases_of : He.DefD := ⟨("phases_of", none), "phases_of", "phases_of", defArgs st_phases_of, defBody st_phases_of, defScope st_phases_of, [], []⟩
def d_plan_of : He.DefD := ⟨("plan_of", none), "plan_of", "plan_of", defArgs st_plan_of, defBody st_plan_of, defScope st_plan_of, [], []⟩
def d_needs_of : He.DefD := ⟨("needs_of", none), "needs_of", "needs_of", defArgs st_needs_of, defBody st_needs_of, defScope st_needs_of, [], []⟩
def d_every_lean : He.DefD := ⟨("every_lean", none), "every_lean", "every_lean", defArgs st_every_lean, defBody st_every_lean, defScope st_every_lean, [], []⟩
def d_gap_from : He.DefD := ⟨("gap_from", none), "gap_from", "gap_from", defArgs st_gap_from, defBody st_gap_from, defScope st_gap_from, [], []⟩
def d_above_touches : He.DefD := ⟨("above_touches", none), "above_touches", "above_touches", defArgs st_above_touches, defBody st_above_touches, defScope st_above_touches, [], []⟩
def d_pushed : He.DefD := ⟨("pushed", none), "pushed", "pushed", defArgs st_pushed, defBody st_pushed, defScope st_pushed, [], []⟩
def d_least_ticks : He.DefD := ⟨("least_ticks", none), "least_ticks", "least_ticks", defArgs st_least_ticks, defBody st_least_ticks, defScope st_least_ticks, [.int 0, .adr (He.dflAt ("least_ticks", none) 1)], []⟩
def d_earliest : He.DefD := ⟨("earliest", none), "earliest", "earliest", defArgs st_earliest, defBody st_earliest, defScope st_earliest, [], []⟩
def d_need_before : He.DefD := ⟨("need_before", none), "need_before", "need_before", defArgs st_need_before, defBody st_need_before, defScope st_need_before, [], []⟩
def d_gap_to : He.DefD := ⟨("gap_to", none), "gap_to", "gap_to", defArgs st_gap_to, defBody st_gap_to, defScope st_gap_to, [], []⟩
def d_pulled : He.DefD := ⟨("pulled", none), "pulled", "pulled", defArgs st_pulled, defBody st_pulled, defScope st_pulled, [], []⟩
def d_most_ticks : He.DefD := ⟨("most_ticks", none), "most_ticks", "most_ticks", defArgs st_most_ticks, defBody st_most_ticks, defScope st_most_ticks, [], []⟩
def d_latest : He.DefD := ⟨("latest", none), "latest", "latest", defArgs st_latest, defBody st_latest, defScope st_latest, [], []⟩
def d_need_standing : He.DefD := ⟨("need_standing", none), "need_standing", "need_standing", defArgs st_need_standing, defBody st_need_standing, defScope st_need_standing, [], []⟩
def d_still_to_do : He.DefD := ⟨("still_to_do", none), "still_to_do", "still_to_do", defArgs st_still_to_do, defBody st_still_to_do, defScope st_still_to_do, [], []⟩
def d_next_touch : He.DefD := ⟨("next_touch", none), "next_touch", "next_touch", defArgs st_next_touch, defBody st_next_touch, defScope st_next_touch, [], []⟩
def d_due_ticks : He.DefD := ⟨("due_ticks", none), "due_ticks", "due_ticks", defArgs st_due_ticks, defBody st_due_ticks, defScope st_due_ticks, [], []⟩
def d_rest_ticks : He.DefD := ⟨("rest_ticks", none), "rest_ticks", "rest_ticks", defArgs st_rest_ticks, defBody st_rest_ticks, defScope st_rest_ticks, [.adr (He.dflAt ("rest_ticks", none) 0)], []⟩
def d_rest_of : He.DefD := ⟨("rest_of", none), "rest_of", "rest_of", defArgs st_rest_of, defBody st_rest_of, defScope st_rest_of, [.adr (He.dflAt ("rest_of", none) 0)], []⟩
def d_need_midst : He.DefD := ⟨("need_midst", none), "need_midst", "need_midst", defArgs st_need_midst, defBody st_need_midst, defScope st_need_midst, [], []⟩
def d_rest : He.DefD := ⟨("rest", none), "rest", "rest", defArgs st_rest, defBody st_rest, defScope st_rest, [], []⟩
def d_mirror_of : He.DefD := ⟨("mirror_of", none), "mirror_of", "mirror_of", defArgs st_mirror_of, defBody st_mirror_of, defScope st_mirror_of, [], []⟩
def d_mirror : He.DefD := ⟨("mirror", none), "mirror", "mirror", defArgs st_mirror, defBody st_mirror, defScope st_mirror, [], []⟩
def d_backwards : He.DefD := ⟨("backwards", none), "backwards", "backwards", defArgs st_backwards, defBody st_backwards, defScope st_backwards, [], []⟩
def d_cut_to : He.DefD := ⟨("cut_to", none), "cut_to", "cut_to", defArgs st_cut_to, defBody st_cut_to, defScope st_cut_to, [], []⟩
def d_led : He.DefD := ⟨("led", none), "led", "led", defArgs st_led, defBody st_led, defScope st_led, [], []⟩
def d_flipped : He.DefD := ⟨("flipped", none), "flipped", "flipped", defArgs st_flipped, defBody st_flipped, defScope st_flipped, [], []⟩
def d_back_of : He.DefD := ⟨("back_of", none), "back_of", "back_of", defArgs st_back_of, defBody st_back_of, defScope st_back_of, [], []⟩
def d_need_goal : He.DefD := ⟨("need_goal", none), "need_goal", "need_goal", defArgs st_need_goal, defBody st_need_goal, defScope st_need_goal, [], []⟩
def d_led_on : He.DefD := ⟨("led_on", none), "led_on", "led_on", defArgs st_led_on, defBody st_led_on, defScope st_led_on, [], []⟩
def d_led_back : He.DefD := ⟨("led_back", none), "led_back", "led_back", defArgs st_led_back, defBody st_led_back, defScope st_led_back, [], []⟩
def d_law_taken : He.DefD := ⟨("_law_taken", none), "_law_taken", "_law_taken", defArgs st_law_taken, defBody st_law_taken, defScope st_law_taken, [], []⟩
def d_law_pick : He.DefD := ⟨("_law_pick", none), "_law_pick", "_law_pick", defArgs st_law_pick, defBody st_law_pick, defScope st_law_pick, [], []⟩
def d_law_alike : He.DefD := ⟨("_law_alike", none), "_law_alike", "_law_alike", defArgs st_law_alike, defBody st_law_alike, defScope st_law_alike, [], []⟩
def d_law_clock : He.DefD := ⟨("_law_clock", none), "_law_clock", "_law_clock", defArgs st_law_clock, defBody st_law_clock, defScope st_law_clock, [], []⟩
def d_law_need : He.DefD := ⟨("_law_need", none), "_law_need", "_law_need", defArgs st_law_need, defBody st_law_need, defScope st_law_need, [], []⟩
def d_law_flat : He.DefD := ⟨("_law_flat", none), "_law_flat", "_law_flat", defArgs st_law_flat, defBody st_law_flat, defScope st_law_flat, [], []⟩
def d_law_up : He.DefD := ⟨("_law_up", none), "_law_up", "_law_up", defArgs st_law_up, defBody st_law_up, defScope st_law_up, [], []⟩
def d_law_goes : He.DefD := ⟨("_law_goes", none), "_law_goes", "_law_goes", defArgs st_law_goes, defBody st_law_goes, defScope st_law_goes, [], []⟩
def d_law_ways : He.DefD := ⟨("_law_ways", none), "_law_ways", "_law_ways", defArgs st_law_ways, defBody st_law_ways, defScope st_law_ways, [], []⟩
def d_law_best : He.DefD := ⟨("_law_best", none), "_law_best", "_law_best", defArgs st_law_best, defBody st_law_best, defScope st_law_best, [], []⟩
def d_law : He.DefD := ⟨("law", none), "law", "law", defArgs st_law, defBody st_law, defScope st_law, [], []⟩
def fn : List He.DefD := [d_is_number, d_are_rising, d_are_editions, d_are_touches, d_are_gaps, d_is_entry, d_is_book, d_need_clock, d_need_tick, d_every_exchange, d_least_needed, d_phases_of, d_plan_of, d_needs_of, d_every_lean, d_gap_from, d_above_touches, d_pushed, d_least_ticks, d_earliest, d_need_before, d_gap_to, d_pulled, d_most_ticks, d_latest, d_need_standing, d_still_to_do, d_next_touch, d_due_ticks, d_rest_ticks, d_rest_of, d_need_midst, d_rest, d_mirror_of, d_mirror, d_backwards, d_cut_to, d_led, d_flipped, d_back_of, d_need_goal, d_led_on, d_led_back, d_law_taken, d_law_pick, d_law_alike, d_law_clock, d_law_need, d_law_flat, d_law_up, d_law_goes, d_law_ways, d_law_best, d_law]
def fa0 : List He.Fa := [.glo "is_number", .glo "are_rising", .glo "are_editions", .glo "are_touches", .glo "are_gaps", .glo "is_entry", .glo "is_book", .glo "need_clock", .glo "need_tick", .glo "every_exchange", .glo "least_needed", .glo "phases_of", .glo "plan_of", .glo "needs_of", .glo "every_lean", .glo "gap_from"]
def fa1 : List He.Fa := [.glo "above_touches", .glo "pushed", .glo "least_ticks", .glo "earliest", .glo "need_before", .glo "gap_to", .glo "pulled", .glo "most_ticks", .glo "latest", .glo "need_standing", .glo "still_to_do", .glo "next_touch", .glo "due_ticks", .glo "rest_ticks", .glo "rest_of", .glo "need_midst"]
def fa2 : List He.Fa := [.glo "rest", .glo "mirror_of", .glo "mirror", .glo "backwards", .glo "cut_to", .glo "led", .glo "flipped", .glo "back_of", .glo "need_goal", .glo "led_on", .glo "led_back", .glo "_law_taken", .glo "_law_pick", .glo "_law_alike", .glo "_law_clock", .glo "_law_need"]
def fa3 : List He.Fa := [.glo "_law_flat", .glo "_law_up", .glo "_law_goes", .glo "_law_ways", .glo "_law_best", .glo "law", .glo "ClockError", .glo "BadClock", .glo "BadTick", .glo "BadNumber", .glo "BadStanding", .free "all", .free "any", .free "enumerate", .free "int", .free "isinstance"]
def fa4 : List He.Fa := [.free "bool", .free "len", .free "list", .free "max", .free "min", .free "range", .free "set", .free "sorted", .free "str", .free "sum", .free "tuple", .free "zip", .int "MOST_PERIOD" 12, .int "MOST_WHEELS" 12, .int "MOST_EDITIONS" 4, .int "MOST_EXCHANGES" 24]
def fa5 : List He.Fa := [.int "MOST_TICK" (10 ^ 30), .int "MOST_BEFORE" 60]
def fa : List He.Fa := fa0 ++ fa1 ++ fa2 ++ fa3 ++ fa4 ++ fa5
def loose0 : List PySem.Str := ["ClockError", "BadClock", "BadTick", "BadNumber", "BadStanding", "MOST_PERIOD", "MOST_WHEELS", "MOST_EDITIONS", "MOST_EXCHANGES", "MOST_TICK", "MOST_BEFORE", "is_number", "are_rising", "are_editions", "are_touches", "are_gaps"]
def loose1 : List PySem.Str := ["is_entry", "is_book", "need_clock", "need_tick", "every_exchange", "least_needed", "phases_of", "plan_of", "needs_of", "every_lean", "gap_from", "above_touches", "pushed", "least_ticks", "earliest", "need_before"]
def loose2 : List PySem.Str := ["gap_to", "pulled", "most_ticks", "latest", "need_standing", "still_to_do", "next_touch", "due_ticks", "rest_ticks", "rest_of", "need_midst", "rest", "mirror_of", "mirror", "backwards", "cut_to"]
def loose3 : List PySem.Str := ["led", "flipped", "back_of", "need_goal", "led_on", "led_back", "_law_taken", "_law_pick", "_law_alike", "_law_clock", "_law_need", "_law_flat", "_law_up", "_law_goes", "_law_ways", "_law_best"]
def loose : List PySem.Str := loose0 ++ loose1 ++ loose2 ++ loose3
def tf : List He.Defn := [("are_rising", none), ("are_editions", none), ("are_gaps", none), ("is_book", none), ("most_ticks", none), ("need_standing", none), ("rest_ticks", none), ("need_goal", none)]
def nilT (K : PySem.W.Frag) (a : Addr) : Bool := match K.lookup a with
  | some ⟨.type n, _, .seq its _, _⟩ => decide (n = "tuple") && its.isEmpty
  | _ => false
def ex (K : PySem.W.Frag) : Bool := (nilT K (He.dflAt ("least_ticks", none) 1 K) && (nilT K (He.dflAt ("rest_ticks", none) 0 K) && nilT K (He.dflAt ("rest_of", none) 0 K))) && PySem.W.excIn K (He.ga K "BadStanding") [.type "ValueError", .type "Exception", .type "BaseException", .type "object"] "ValueError.__new__" && (PySem.W.keepIn K (.ref (He.ga K "BadStanding")) && (decide (PySem.W.subIn K (.ref (He.ga K "BadStanding")) (.type "BaseException") = some true) && (decide (PySem.W.typeIn K (.ref (He.ga K "BadStanding")) = some (.type "type")) && decide (PySem.W.exmOne K (.ref (He.ga K "BadStanding")) (.ref (He.ga K "BadStanding")) = some true))))
abbrev R : PySem.W.OpenRow := PySem.W.OpenLaw.row PySem.Challenge.rw_livingclock_k67_whole_backs
abbrev hk : PySem.W.Hook := He.hookX 4 fa fn [] tf ex
def ob (s : PySem.W.SharedT) : He.AlX := He.obsX 4 fa fn [] tf ex (HandSHeadRun.getT s)
theorem ob_eq (s : PySem.W.SharedT) : ob s = hk.obs s.abs := He.obsX_eq (HandSHeadRun.getT_eq s)
theorem run (w : World) : HandSHeadRun.RunEq R (PySem.W.view R.prog [73]) hk ob 6000 loose w := by
  intro os
  kernel_rfl
end LHead
end
section
set_option Elab.async false
set_option linter.all false
set_option autoImplicit false
set_option maxRecDepth 100000
set_option maxHeartbeats 2000000
/-! The layer of plain data over the hand layer: what a name holds is told by data, not by heaps. -/
namespace DL
open PySem PySem.Spec L2
open PyProof.Rows hiding St

abbrev D := PyData

/-- cells that no datum goes through: the callers', this def's own (written), the draws' rows -/
structure Pr where
  cal : Addr → Prop
  loc : Addr → Prop
  row : Addr → Prop
def Pr.own (p : Pr) (a : Addr) : Prop := p.cal a ∨ p.loc a ∨ p.row a
def Pr.out (p : Pr) (a : Addr) : Prop := p.cal a ∨ p.row a

abbrev KD := List (List Int × Int)
def encK (kvs : KD) : List (List Key × V) := kvs.map fun q => (q.1.map Sum.inl, V.int q.2)
def dicD (kvs : KD) : D := .dict (kvs.map fun q => (.tuple (q.1.map .int), .int q.2))
def H0 : Hp := fun _ => none
def ScrAt (K : PySem.W.Frag) (O : Addr → Prop) (H : Hp) (a : Addr) (xs : List V) : Prop := (¬ O a ∧ Rd H a (.lst xs)) ∨ SqL K H0 a xs
def LstAt (O : Addr → Prop) (H : Hp) (a : Addr) (xs : List V) : Prop := ¬ O a ∧ H a = some (.lst xs)
def TupAt (K : PySem.W.Frag) (O : Addr → Prop) (H : Hp) (a : Addr) (xs : List V) : Prop := (¬ O a ∧ H a = some (.tup xs)) ∨ (xs = [] ∧ SqT K H0 a [])

mutual
inductive Rp (K : PySem.W.Frag) (O : Addr → Prop) (H : Hp) : V → D → Prop
  | non : Rp K O H .non .none
  | bl (b : Bool) : Rp K O H (.bl b) (.bool b)
  | int (i : Int) : Rp K O H (.int i) (.int i)
  | lst {a : Addr} {xs : List V} {ds : List D} : LstAt O H a xs → Rps K O H xs ds → Rp K O H (.ref a) (.list ds)
  | tup {a : Addr} {xs : List V} {ds : List D} : TupAt K O H a xs → Rps K O H xs ds → Rp K O H (.ref a) (.tuple ds)
  | dic {a : Addr} {kvs : KD} {d : D} : ¬ O a → H a = some (.dT (encK kvs)) → d = dicD kvs → Rp K O H (.ref a) d
inductive Rps (K : PySem.W.Frag) (O : Addr → Prop) (H : Hp) : List V → List D → Prop
  | nil : Rps K O H [] []
  | cons {v : V} {vs : List V} {d : D} {ds : List D} : Rp K O H v d → Rps K O H vs ds → Rps K O H (v :: vs) (d :: ds)
end

theorem sqL0 {K : PySem.W.Frag} {H : Hp} {a : Addr} {xs : List V} (h : SqL K H0 a xs) : SqL K H a xs := by
  rcases h with (h | ⟨o, h⟩) | h
  · cases h
  · cases h
  · exact .inr h
theorem sqT0 {K : PySem.W.Frag} {H : Hp} {a : Addr} {xs : List V} (h : SqT K H0 a xs) : SqT K H a xs := by
  rcases h with (h | ⟨o, h⟩) | h
  · cases h
  · cases h
  · exact .inr h
theorem ScrAt.sq {K : PySem.W.Frag} {O : Addr → Prop} {H : Hp} {a : Addr} {xs : List V} (h : ScrAt K O H a xs) : SqL K H a xs := by
  rcases h with h | h
  · exact .inl h.2
  · exact sqL0 h
theorem LstAt.sq {K : PySem.W.Frag} {O : Addr → Prop} {H : Hp} {a : Addr} {xs : List V} (h : LstAt O H a xs) : SqL K H a xs := .inl (.inl h.2)
theorem TupAt.sq {K : PySem.W.Frag} {O : Addr → Prop} {H : Hp} {a : Addr} {xs : List V} (h : TupAt K O H a xs) : SqT K H a xs := by
  rcases h with h | ⟨e, h⟩
  · exact .inl (.inl h.2)
  · subst e
    exact sqT0 h
theorem TupAt.at_ {K : PySem.W.Frag} {O : Addr → Prop} {H : Hp} {a : Addr} {xs : List V} (h : TupAt K O H a xs) (n : xs ≠ []) : H a = some (.tup xs) := by
  rcases h with h | ⟨e, h⟩
  · exact h.2
  · exact absurd e n

def Mono (O : Addr → Prop) (H : Hp) (O' : Addr → Prop) (H' : Hp) : Prop := ∀ a x, H a = some x → ¬ O a → (∀ ps, x ≠ .tbl ps) → H' a = some x ∧ ¬ O' a
theorem Mono.rd {O O' : Addr → Prop} {H H' : Hp} {a : Addr} {u : HO} (m : Mono O H O' H') (hu : ∀ ps, u ≠ .tbl ps) (h : ¬ O a ∧ Rd H a u) : ¬ O' a ∧ Rd H' a u := by
  obtain ⟨n, h | ⟨o, h⟩⟩ := h
  · have q := m a _ h n hu
    exact ⟨q.2, .inl q.1⟩
  · have q := m a _ h n (fun ps z => by cases z)
    exact ⟨q.2, .inr ⟨o, q.1⟩⟩
theorem ScrAt.mono {K : PySem.W.Frag} {O O' : Addr → Prop} {H H' : Hp} {a : Addr} {xs : List V} (m : Mono O H O' H') (h : ScrAt K O H a xs) : ScrAt K O' H' a xs := by
  rcases h with h | h
  · exact .inl (m.rd (fun ps z => by cases z) h)
  · exact .inr h
theorem LstAt.mono {O O' : Addr → Prop} {H H' : Hp} {a : Addr} {xs : List V} (m : Mono O H O' H') (h : LstAt O H a xs) : LstAt O' H' a xs :=
  ⟨(m _ _ h.2 h.1 (fun ps z => by cases z)).2, (m _ _ h.2 h.1 (fun ps z => by cases z)).1⟩
theorem TupAt.mono {K : PySem.W.Frag} {O O' : Addr → Prop} {H H' : Hp} {a : Addr} {xs : List V} (m : Mono O H O' H') (h : TupAt K O H a xs) : TupAt K O' H' a xs := by
  rcases h with h | h
  · exact .inl ⟨(m _ _ h.2 h.1 (fun ps z => by cases z)).2, (m _ _ h.2 h.1 (fun ps z => by cases z)).1⟩
  · exact .inr h
mutual
theorem Rp.mono {K : PySem.W.Frag} {O O' : Addr → Prop} {H H' : Hp} (m : Mono O H O' H') : ∀ {v : V} {d : D}, Rp K O H v d → Rp K O' H' v d
  | _, _, .non => .non
  | _, _, .bl b => .bl b
  | _, _, .int i => .int i
  | _, _, .lst h r => .lst (h.mono m) (Rps.mono m r)
  | _, _, .tup h r => .tup (h.mono m) (Rps.mono m r)
  | _, _, .dic n h e => .dic (m _ _ h n (fun ps z => by cases z)).2 (m _ _ h n (fun ps z => by cases z)).1 e
theorem Rps.mono {K : PySem.W.Frag} {O O' : Addr → Prop} {H H' : Hp} (m : Mono O H O' H') : ∀ {vs : List V} {ds : List D}, Rps K O H vs ds → Rps K O' H' vs ds
  | _, _, .nil => .nil
  | _, _, .cons h r => .cons (Rp.mono m h) (Rps.mono m r)
end
theorem Mono.weak {O O' : Addr → Prop} {H : Hp} (h : ∀ a, O' a → O a) : Mono O H O' H := fun _ _ e n _ => ⟨e, fun z => n (h _ z)⟩

theorem Rps.length {K : PySem.W.Frag} {O : Addr → Prop} {H : Hp} : ∀ {vs : List V} {ds : List D}, Rps K O H vs ds → vs.length = ds.length
  | _, _, .nil => rfl
  | _, _, .cons _ r => congrArg Nat.succ r.length
theorem Rps.get {K : PySem.W.Frag} {O : Addr → Prop} {H : Hp} : ∀ {vs : List V} {ds : List D} {i : Nat} {d : D}, Rps K O H vs ds → ds[i]? = some d → ∃ v, vs[i]? = some v ∧ Rp K O H v d
  | _, _, _, _, .nil, e => by simp at e
  | _, _, 0, _, .cons h _, e => by
    simp at e
    subst e
    exact ⟨_, rfl, h⟩
  | _, _, i + 1, d, .cons _ r, e => by
    obtain ⟨v, h1, h2⟩ := Rps.get (i := i) (d := d) r (by simpa using e)
    exact ⟨v, by simpa using h1, h2⟩
theorem Rps.get' {K : PySem.W.Frag} {O : Addr → Prop} {H : Hp} : ∀ {vs : List V} {ds : List D} {i : Nat} {v : V}, Rps K O H vs ds → vs[i]? = some v → ∃ d, ds[i]? = some d ∧ Rp K O H v d
  | _, _, _, _, .nil, e => by simp at e
  | _, _, 0, _, .cons h _, e => by
    simp at e
    subst e
    exact ⟨_, rfl, h⟩
  | _, _, i + 1, d, .cons _ r, e => by
    obtain ⟨v, h1, h2⟩ := Rps.get' (i := i) (v := d) r (by simpa using e)
    exact ⟨v, by simpa using h1, h2⟩
theorem Rps.append {K : PySem.W.Frag} {O : Addr → Prop} {H : Hp} : ∀ {vs ws : List V} {ds es : List D}, Rps K O H vs ds → Rps K O H ws es → Rps K O H (vs ++ ws) (ds ++ es)
  | _, _, _, _, .nil, s => s
  | _, _, _, _, .cons h r, s => .cons h (Rps.append r s)
theorem Rps.take {K : PySem.W.Frag} {O : Addr → Prop} {H : Hp} : ∀ {vs : List V} {ds : List D} (n : Nat), Rps K O H vs ds → Rps K O H (vs.take n) (ds.take n)
  | _, _, 0, _ => .nil
  | _, _, _ + 1, .nil => .nil
  | _, _, n + 1, .cons h r => .cons h (Rps.take n r)
theorem Rps.drop {K : PySem.W.Frag} {O : Addr → Prop} {H : Hp} : ∀ {vs : List V} {ds : List D} (n : Nat), Rps K O H vs ds → Rps K O H (vs.drop n) (ds.drop n)
  | _, _, 0, r => r
  | _, _, _ + 1, .nil => .nil
  | _, _, n + 1, .cons _ r => Rps.drop n r
theorem Rps.ints {K : PySem.W.Frag} {O : Addr → Prop} {H : Hp} : ∀ {vs : List V} {ns : List Int}, Rps K O H vs (ns.map .int) → vs = ns.map V.int
  | _, [], h => by
    cases h
    rfl
  | _, n :: ns, h => by
    cases h with
    | cons h r =>
      cases h with
      | int i => rw [Rps.ints r] <;> rfl
      | dic _ _ e => cases e
theorem Rps.of_ints {K : PySem.W.Frag} {O : Addr → Prop} {H : Hp} : ∀ (ns : List Int), Rps K O H (ns.map V.int) (ns.map .int)
  | [] => .nil
  | n :: ns => .cons (.int n) (Rps.of_ints ns)

/-! what a datum's shape says of its value -/
section
variable {K : PySem.W.Frag} {O : Addr → Prop} {H : Hp} {v : V}
theorem Rp.int_v {i : Int} (h : Rp K O H v (.int i)) : v = .int i := by
  cases h with
  | int => rfl
  | dic _ _ e => cases e
theorem Rp.bl_v {b : Bool} (h : Rp K O H v (.bool b)) : v = .bl b := by
  cases h with
  | bl => rfl
  | dic _ _ e => cases e
theorem Rp.non_v (h : Rp K O H v .none) : v = .non := by
  cases h with
  | non => rfl
  | dic _ _ e => cases e
theorem Rp.tup_v {ds : List D} (h : Rp K O H v (.tuple ds)) : ∃ a xs, v = .ref a ∧ TupAt K O H a xs ∧ Rps K O H xs ds := by
  cases h with
  | tup t r => exact ⟨_, _, rfl, t, r⟩
  | dic _ _ e => cases e
theorem Rp.lst_v {ds : List D} (h : Rp K O H v (.list ds)) : ∃ a xs, v = .ref a ∧ LstAt O H a xs ∧ Rps K O H xs ds := by
  cases h with
  | lst t r => exact ⟨_, _, rfl, t, r⟩
  | dic _ _ e => cases e
theorem dicD_inj {a b : KD} (h : dicD a = dicD b) : a = b := by
  unfold dicD at h
  injection h with h
  have key : ∀ (l m : KD), l.map (fun q => ((PyData.tuple (q.1.map .int), PyData.int q.2) : PyData × PyData)) = m.map (fun q => (PyData.tuple (q.1.map .int), PyData.int q.2)) → l = m := by
    intro l
    induction l with
    | nil =>
      intro m h
      cases m with
      | nil => rfl
      | cons => simp at h
    | cons x l ih =>
      intro m h
      cases m with
      | nil => simp at h
      | cons y m =>
        simp only [List.map_cons, List.cons.injEq, Prod.mk.injEq, PyData.tuple.injEq, PyData.int.injEq] at h
        obtain ⟨⟨h1, h2⟩, h3⟩ := h
        have e1 : x.1 = y.1 := by
          have ki : ∀ (a b : List Int), a.map PyData.int = b.map PyData.int → a = b := by
            intro a
            induction a with
            | nil =>
              intro b h
              cases b with
              | nil => rfl
              | cons => simp at h
            | cons z a ih2 =>
              intro b h
              cases b with
              | nil => simp at h
              | cons w b =>
                simp only [List.map_cons, List.cons.injEq, PyData.int.injEq] at h
                rw [h.1, ih2 b h.2]
          exact ki _ _ h1
        rw [ih m h3, show x = y from Prod.ext e1 h2]
  exact key a b h
theorem Rp.dic_v {kvs : KD} (h : Rp K O H v (dicD kvs)) : ∃ a, v = .ref a ∧ ¬ O a ∧ H a = some (.dT (encK kvs)) := by
  generalize e : dicD kvs = d at h
  cases h with
  | dic n h e2 =>
    rw [e2] at e
    cases dicD_inj e
    exact ⟨_, rfl, n, h⟩
  | _ => cases e
end

/-! ### how heaps go on -/
def RowV (s : Addr) (x : HO) : Prop := ∃ i j k : Int, x = .lst [.ref s, .int i, .int j, .int k] ∧ 0 ≤ i ∧ 0 ≤ j ∧ j < 2147483647
def Kept (row : Prop) (x y : HO) : Prop := y = x ∨ (∃ ps qs : Array Value, x = .tbl ps ∧ y = .tbl qs ∧ (TriplesOk ps.toList → TriplesOk qs.toList)) ∨ (row ∧ ∃ s, RowV s x ∧ RowV s y)
def Gr (loc row : Addr → Prop) (H H' : Hp) : Prop := ∀ b x, H b = some x → ¬ loc b → ∃ y, H' b = some y ∧ Kept (row b) x y
def noA : Addr → Prop := fun _ => False
theorem Kept.refl {r : Prop} {x : HO} : Kept r x x := .inl rfl
theorem RowV.ntbl {s : Addr} {x : HO} (h : RowV s x) (ps : Array Value) : x ≠ .tbl ps := fun e => by
  obtain ⟨i, j, k, h, _⟩ := h
  rw [h] at e
  cases e
theorem RowV.same {s t : Addr} {x : HO} (h : RowV s x) (g : RowV t x) : s = t := by
  obtain ⟨i, j, k, h, _⟩ := h
  obtain ⟨i', j', k', g, _⟩ := g
  rw [h] at g
  injection g with g
  injection g with g _
  injection g
theorem Kept.trans {r r' : Prop} {x y z : HO} (h : Kept r x y) (g : Kept r' y z) (hr : r' → r) : Kept r x z := by
  rcases h with rfl | ⟨ps, qs, rfl, rfl, t⟩ | ⟨hr1, s, v1, v2⟩
  · rcases g with rfl | g | ⟨h1, g⟩
    · exact .inl rfl
    · exact .inr (.inl g)
    · exact .inr (.inr ⟨hr h1, g⟩)
  · rcases g with rfl | ⟨ps', qs', e, rfl, t'⟩ | ⟨h1, s, v1, v2⟩
    · exact .inr (.inl ⟨ps, qs, rfl, rfl, t⟩)
    · cases e
      exact .inr (.inl ⟨ps, qs', rfl, rfl, fun q => t' (t q)⟩)
    · exact absurd rfl (v1.ntbl _)
  · rcases g with rfl | ⟨ps', qs', e, rfl, t'⟩ | ⟨h1, s', w1, w2⟩
    · exact .inr (.inr ⟨hr1, s, v1, v2⟩)
    · exact absurd e (v2.ntbl _)
    · cases v2.same w1
      exact .inr (.inr ⟨hr1, s, v1, w2⟩)
theorem Gr.refl {loc row : Addr → Prop} (H : Hp) : Gr loc row H H := fun _ x e _ => ⟨x, e, .refl⟩
theorem Gr.of_same {loc row : Addr → Prop} {H H' : Hp} (h : Same H H') : Gr loc row H H' := fun _ x e _ => ⟨x, h _ _ e, .refl⟩
theorem Gr.trans {loc row loc' row' : Addr → Prop} {H H1 H2 : Hp} (a : Gr loc row H H1) (b : Gr loc' row' H1 H2) (hl : ∀ c x, H c = some x → loc' c → loc c) (hr : ∀ c x, H c = some x → ¬ loc c → row' c → row c) : Gr loc row H H2 := fun c x e n => by
  obtain ⟨y, e1, k1⟩ := a c x e n
  obtain ⟨z, e2, k2⟩ := b c y e1 (fun q => n (hl c x e q))
  exact ⟨z, e2, k1.trans k2 (hr c x e n)⟩
abbrev Gr0 (p : Pr) : Hp → Hp → Prop := Gr noA p.row
theorem Gr0.trans {p : Pr} {H H1 H2 : Hp} (a : Gr0 p H H1) (b : Gr0 p H1 H2) : Gr0 p H H2 := Gr.trans a b (fun _ _ _ z => z) (fun _ _ _ _ z => z)
theorem Gr0.refl {p : Pr} (H : Hp) : Gr0 p H H := Gr.refl H
theorem Gr0.of_same {p : Pr} {H H' : Hp} (h : Same H H') : Gr0 p H H' := Gr.of_same h

structure Good (T : Addr → Prop) (p : Pr) (H : Hp) : Prop where
  there : ∀ b, p.own b → ∃ x, H b = some x
  tabs : ∀ t, T t → GxR.TabG H t
  rl : ∀ b, p.loc b → ¬ p.row b
  lc : ∀ b, p.loc b → ¬ p.cal b
  nt : ∀ b xs, p.own b → H b ≠ some (.tup xs)
theorem tabG_kept {H H' : Hp} {t : Addr} {r : Prop} (h : GxR.TabG H t) (k : ∀ x, H t = some x → ∃ y, H' t = some y ∧ Kept r x y) : GxR.TabG H' t := by
  obtain ⟨ps, e, q⟩ := h
  obtain ⟨y, e', k⟩ := k _ e
  rcases k with rfl | ⟨ps', qs, z, rfl, f⟩ | ⟨_, s, v, _⟩
  · exact ⟨ps, e', q⟩
  · cases z
    exact ⟨qs, e', f q⟩
  · exact absurd rfl (v.ntbl _)
theorem Good.go {T : Addr → Prop} {p : Pr} {H H' : Hp} (g : Good T p H) (h : Gr0 p H H') : Good T p H' where
  there := fun b hb => by
    obtain ⟨x, e⟩ := g.there b hb
    obtain ⟨y, e', _⟩ := h b x e (fun z => z)
    exact ⟨y, e'⟩
  tabs := fun t ht => tabG_kept (g.tabs t ht) fun x e => h t x e (fun z => z)
  rl := g.rl
  lc := g.lc
  nt := fun b xs hb e => by
    obtain ⟨x, ex⟩ := g.there b hb
    obtain ⟨y, e', k⟩ := h b x ex (fun z => z)
    rw [e] at e'
    cases e'
    rcases k with q | ⟨ps, qs, _, q, _⟩ | ⟨_, s, _, v⟩
    · exact g.nt b xs hb (by rw [ex, q])
    · cases q
    · obtain ⟨i, j, k, q, _⟩ := v
      cases q
theorem Gr0.mono {p : Pr} {H H' : Hp} (h : Gr0 p H H') : Mono p.own H p.own H' := fun a x e n nt => by
  obtain ⟨y, e', k⟩ := h a x e (fun z => z)
  rcases k with rfl | ⟨ps, qs, rfl, _, _⟩ | ⟨r, _⟩
  · exact ⟨e', n⟩
  · exact absurd rfl (nt ps)
  · exact absurd (.inr (.inr r)) n
/-- a cell of one's own stays -/
theorem Gr0.own {T : Addr → Prop} {p : Pr} {H H' : Hp} {a : Addr} {x : HO} (g : Good T p H) (h : Gr0 p H H') (hl : p.loc a) (e : H a = some x) (nt : ∀ ps, x ≠ .tbl ps) : H' a = some x := by
  obtain ⟨y, e', k⟩ := h a x e (fun z => z)
  rcases k with rfl | ⟨ps, qs, rfl, _, _⟩ | ⟨r, _⟩
  · exact e'
  · exact absurd rfl (nt ps)
  · exact absurd r (g.rl _ hl)

/-! ### what a slot holds -/
inductive Ent where
  | unk
  | dat (d : D)
  | lst (ds : List D)
  | dic (kvs : KD)
  | row (ns : List Int)
def Ent.isOwn : Ent → Prop
  | .lst _ => True
  | .dic _ => True
  | _ => False
def EntOk (K : PySem.W.Frag) (p : Pr) (H : Hp) (v : Option V) : Ent → Prop
  | .unk => True
  | .dat d => ∃ x, v = some x ∧ Rp K p.own H x d
  | .lst ds => ∃ a xs, v = some (.ref a) ∧ p.loc a ∧ H a = some (.lst xs) ∧ Rps K p.own H xs ds
  | .dic kvs => ∃ a, v = some (.ref a) ∧ p.loc a ∧ H a = some (.dT (encK kvs))
  | .row ns => ∃ r x s, v = some (.ref r) ∧ p.row r ∧ H r = some x ∧ RowV s x ∧ ScrAt K p.own H s (ns.map V.int) ∧ ns.length ≤ 63
theorem EntOk.go {K : PySem.W.Frag} {T : Addr → Prop} {p : Pr} {H H' : Hp} {v : Option V} {e : Ent} (g : Good T p H) (h : Gr0 p H H') (o : EntOk K p H v e) : EntOk K p H' v e := by
  cases e with
  | unk => trivial
  | dat d =>
    obtain ⟨x, e, r⟩ := o
    exact ⟨x, e, r.mono h.mono⟩
  | lst ds =>
    obtain ⟨a, xs, e, l, q, r⟩ := o
    exact ⟨a, xs, e, l, h.own g l q (fun ps z => by cases z), r.mono h.mono⟩
  | dic kvs =>
    obtain ⟨a, e, l, q⟩ := o
    exact ⟨a, e, l, h.own g l q (fun ps z => by cases z)⟩
  | row ns =>
    obtain ⟨r, x, s, e, l, q, rv, rp, hl⟩ := o
    obtain ⟨y, e', k⟩ := h r x q (fun z => z)
    refine ⟨r, y, s, e, l, e', ?_, rp.mono h.mono, hl⟩
    rcases k with rfl | ⟨ps, qs, rfl, _, _⟩ | ⟨_, s', v1, v2⟩
    · exact rv
    · exact absurd rfl (rv.ntbl ps)
    · cases v1.same rv
      exact v2
def Owned (es : List Ent) (i : Nat) : Prop := ∃ e, es[i]? = some e ∧ e.isOwn
structure EnvOk (K : PySem.W.Frag) (p : Pr) (H : Hp) (σ : St) (es : List Ent) : Prop where
  len : σ.length = es.length
  at_ : ∀ (i : Nat) (e : Ent), es[i]? = some e → EntOk K p H (σ[i]?.getD none) e
  apart : ∀ (i j : Nat) (a : Addr), i ≠ j → Owned es i → Owned es j → σ[i]? = some (some (.ref a)) → σ[j]? ≠ some (some (.ref a))
theorem EnvOk.go {K : PySem.W.Frag} {T : Addr → Prop} {p : Pr} {H H' : Hp} {σ : St} {es : List Ent} (g : Good T p H) (h : Gr0 p H H') (o : EnvOk K p H σ es) : EnvOk K p H' σ es :=
  ⟨o.len, fun i e q => (o.at_ i e q).go g h, o.apart⟩
theorem getD_some {α : Type} {l : List (Option α)} {i : Nat} {x : α} (h : l[i]?.getD none = some x) : l[i]? = some (some x) := by
  cases q : l[i]? with
  | none =>
    rw [q] at h
    cases h
  | some y =>
    rw [q] at h
    have e : y = some x := h
    rw [e]
theorem EnvOk.dat {K : PySem.W.Frag} {p : Pr} {H : Hp} {σ : St} {es : List Ent} (o : EnvOk K p H σ es) {i : Nat} {d : D} (h : es[i]? = some (.dat d)) : ∃ v, σ[i]? = some (some v) ∧ Rp K p.own H v d := by
  obtain ⟨x, e, r⟩ := o.at_ i _ h
  exact ⟨x, getD_some e, r⟩
theorem EnvOk.lst {K : PySem.W.Frag} {p : Pr} {H : Hp} {σ : St} {es : List Ent} (o : EnvOk K p H σ es) {i : Nat} {ds : List D} (h : es[i]? = some (.lst ds)) : ∃ a xs, σ[i]? = some (some (.ref a)) ∧ p.loc a ∧ H a = some (.lst xs) ∧ Rps K p.own H xs ds := by
  obtain ⟨a, xs, e, r⟩ := o.at_ i _ h
  exact ⟨a, xs, getD_some e, r⟩
theorem EnvOk.dic {K : PySem.W.Frag} {p : Pr} {H : Hp} {σ : St} {es : List Ent} (o : EnvOk K p H σ es) {i : Nat} {kvs : KD} (h : es[i]? = some (.dic kvs)) : ∃ a, σ[i]? = some (some (.ref a)) ∧ p.loc a ∧ H a = some (.dT (encK kvs)) := by
  obtain ⟨a, e, r⟩ := o.at_ i _ h
  exact ⟨a, getD_some e, r⟩
end DL
end
section
set_option Elab.async false
set_option linter.all false
set_option autoImplicit false
set_option maxRecDepth 100000
set_option maxHeartbeats 2000000
/-! The judgements over plain data: expressions, tests, arguments. -/
namespace DL
open PySem PySem.Spec L2
open PyProof.Rows hiding St

/-! ### the weakest readings -/
def wE (X : Cx) (e : Expr) : TE := fun σ H Q => ∀ (pins : List (Addr × Obj)) (s : Shared), Inv X pins σ H s → wpAny (model X.prog X.w) X.A (eval e X.env) (EP X pins σ Q) X.xe s
def wT (X : Cx) (e : Expr) : TT := fun σ H Q => ∀ (pins : List (Addr × Obj)) (s : Shared), Inv X pins σ H s → wpAny (model X.prog X.w) X.A (isTrue e X.env (eval e X.env)) (TP X pins σ Q) X.xe s
def wW (X : Cx) (e : Expr) : TT := fun σ H Q => ∀ (whole : Sem Value) (pins : List (Addr × Obj)) (s : Shared), Inv X pins σ H s → wpAny (model X.prog X.w) X.A (isTrue e X.env whole) (TP X pins σ Q) X.xe s
def wA (X : Cx) (es : List Expr) : TA := fun σ H Q => ∀ (pos : Pos) (pins : List (Addr × Obj)) (s : Shared), Inv X pins σ H s → wpAny (model X.prog X.w) X.A (spliced (backTo pos (starEach es X.env))) (AP X pins σ Q) X.xe s
def wS (X : Cx) (st : List Stmt) : TS := fun D σ H => ∀ (pins : List (Addr × Obj)) (s : Shared), Inv X pins σ H s → wpAny (model X.prog X.w) X.A (execs st X.env) (SP X pins D) X.xe s
def wS1 (X : Cx) (st : Stmt) : TS := fun D σ H => ∀ (pins : List (Addr × Obj)) (s : Shared), Inv X pins σ H s → wpAny (model X.prog X.w) X.A (exec st X.env) (SP X pins D) X.xe s
def wG (X : Cx) (tg : Expr) : TG := fun v σ H Q => ∀ (pins : List (Addr × Obj)) (s : Shared) (u : Value), Inv X pins σ H s → RelV v u → wpAny (model X.prog X.w) X.A (assign tg X.env u) (fun _ s' => ∃ σ' H', Inv X pins σ' H' s' ∧ Q σ' H') X.xe s
def wI (X : Cx) (tg iter : Expr) : TI := fun σ H R => ∀ (pins : List (Addr × Obj)) (s : Shared), Inv X pins σ H s → wpAny (model X.prog X.w) X.A (eval iter X.env) (fun v s1 => wpAny (model X.prog X.w) X.A (pyIter v) (PIE X pins σ tg R) X.xe s1) X.xe s
section
variable {X : Cx} {e tg iter : Expr} {es : List Expr} {sts : List Stmt} {st : Stmt}
theorem pe_w : PE X e (wE X e) := ⟨fun pins s _ _ _ I h => h pins s I⟩
theorem pt_w : PT X e (wT X e) := ⟨fun pins s _ _ _ I h => h pins s I⟩
theorem pw_w : PW X e (wW X e) := ⟨fun wh pins s _ _ _ I h => h wh pins s I⟩
theorem pa_w : PA X es (wA X es) := ⟨fun pos pins s _ _ _ I h => h pos pins s I⟩
theorem pss_w : PSs X sts (wS X sts) := ⟨fun pins s _ _ _ I h => h pins s I⟩
theorem ps_w : PS X st (wS1 X st) := ⟨fun pins s _ _ _ I h => h pins s I⟩
theorem pg_w : PG X tg (wG X tg) := ⟨fun pins s _ _ _ u _ I r h => h pins s u I r⟩
theorem pi_w : PI X tg iter (wI X tg iter) := ⟨fun pins s _ _ _ I h => h pins s I⟩
theorem wE_of {t : TE} (h : PE X e t) {σ : St} {H : Hp} {Q : VK} (q : t σ H Q) : wE X e σ H Q := fun pins s I => h.run pins s σ H Q I q
theorem wT_of {t : TT} (h : PT X e t) {σ : St} {H : Hp} {Q : Bool → Hp → Prop} (q : t σ H Q) : wT X e σ H Q := fun pins s I => h.run pins s σ H Q I q
theorem wW_of {t : TT} (h : PW X e t) {σ : St} {H : Hp} {Q : Bool → Hp → Prop} (q : t σ H Q) : wW X e σ H Q := fun wh pins s I => h.run wh pins s σ H Q I q
theorem wA_of {t : TA} (h : PA X es t) {σ : St} {H : Hp} {Q : List V → Hp → Prop} (q : t σ H Q) : wA X es σ H Q := fun pos pins s I => h.run pos pins s σ H Q I q
theorem wS_of {t : TS} (h : PSs X sts t) {σ : St} {H : Hp} {D : Ends} (q : t D σ H) : wS X sts D σ H := fun pins s I => h.run pins s σ H D I q
theorem wS1_of {t : TS} (h : PS X st t) {σ : St} {H : Hp} {D : Ends} (q : t D σ H) : wS1 X st D σ H := fun pins s I => h.run pins s σ H D I q
theorem wG_of {t : TG} (h : PG X tg t) {v : V} {σ : St} {H : Hp} {Q : St → Hp → Prop} (q : t v σ H Q) : wG X tg v σ H Q := fun pins s u I r => h.run pins s σ H v u Q I r q
theorem wI_of {t : TI} (h : PI X tg iter t) {σ : St} {H : Hp} {R : It → Hp → Prop} (q : t σ H R) : wI X tg iter σ H R := fun pins s I => h.run pins s σ H R I q
theorem wE_mono {σ : St} {H : Hp} {Q Q' : VK} (h : wE X e σ H Q) (q : ∀ v H', Q v H' → Q' v H') : wE X e σ H Q' := fun pins s I => thn (h pins s I) fun u s' ⟨v, H', J, r, z⟩ => ⟨v, H', J, r, q v H' z⟩
theorem wS_mono {σ : St} {H : Hp} {D D' : Ends} (h : wS X sts D σ H) (h1 : ∀ σ H, D.nx σ H → D'.nx σ H) (h2 : ∀ v H, D.rt v H → D'.rt v H) (h3 : ∀ σ H, D.bk σ H → D'.bk σ H) (h4 : ∀ σ H, D.ct σ H → D'.ct σ H) : wS X sts D' σ H := fun pins s I =>
  thn (h pins s I) fun f s' q => by
    cases f with
    | next => obtain ⟨σ', H', J, z⟩ := q; exact ⟨σ', H', J, h1 _ _ z⟩
    | brk => obtain ⟨σ', H', J, z⟩ := q; exact ⟨σ', H', J, h3 _ _ z⟩
    | cont => obtain ⟨σ', H', J, z⟩ := q; exact ⟨σ', H', J, h4 _ _ z⟩
    | ret u => obtain ⟨v, σ', H', J, r, z⟩ := q; exact ⟨v, σ', H', J, r, h2 _ _ z⟩
end

/-! ### what may be read: a datum, or a list, a dict of one's own -/
def RpR (K : PySem.W.Frag) (p : Pr) (H : Hp) (v : V) (d : D) : Prop :=
  Rp K p.own H v d ∨ (∃ a xs ds, v = .ref a ∧ d = .list ds ∧ p.loc a ∧ H a = some (.lst xs) ∧ Rps K p.own H xs ds) ∨ ∃ a kvs, v = .ref a ∧ d = dicD kvs ∧ p.loc a ∧ H a = some (.dT (encK kvs))
section
variable {K : PySem.W.Frag} {T : Addr → Prop} {p : Pr} {H H' : Hp} {v : V} {d : D}
theorem RpR.go (g : Good T p H) (h : Gr0 p H H') (r : RpR K p H v d) : RpR K p H' v d := by
  rcases r with r | ⟨a, xs, ds, e1, e2, l, q, r⟩ | ⟨a, kvs, e1, e2, l, q⟩
  · exact .inl (r.mono h.mono)
  · exact .inr (.inl ⟨a, xs, ds, e1, e2, l, h.own g l q (fun ps z => by cases z), r.mono h.mono⟩)
  · exact .inr (.inr ⟨a, kvs, e1, e2, l, h.own g l q (fun ps z => by cases z)⟩)
/-- a list that may be read -/
theorem RpR.lst {ds : List D} (r : RpR K p H v (.list ds)) : ∃ a xs, v = .ref a ∧ H a = some (.lst xs) ∧ Rps K p.own H xs ds := by
  rcases r with r | ⟨a, xs, ds', e1, e2, l, q, r⟩ | ⟨a, kvs, e1, e2, l, q⟩
  · obtain ⟨a, xs, e, t, r⟩ := r.lst_v
    exact ⟨a, xs, e, t.2, r⟩
  · cases e2
    exact ⟨a, xs, e1, q, r⟩
  · cases e2
theorem RpR.tup {ds : List D} (r : RpR K p H v (.tuple ds)) : ∃ a xs, v = .ref a ∧ SqT K H a xs ∧ Rps K p.own H xs ds := by
  rcases r with r | ⟨a, xs, ds', e1, e2, l, q, r⟩ | ⟨a, kvs, e1, e2, l, q⟩
  · obtain ⟨a, xs, e, t, r⟩ := r.tup_v
    exact ⟨a, xs, e, t.sq, r⟩
  · cases e2
  · cases e2
theorem RpR.dic {kvs : KD} (r : RpR K p H v (dicD kvs)) : ∃ a, v = .ref a ∧ H a = some (.dT (encK kvs)) := by
  rcases r with r | ⟨a, xs, ds', e1, e2, l, q, r⟩ | ⟨a, kvs', e1, e2, l, q⟩
  · obtain ⟨a, e, _, h⟩ := r.dic_v
    exact ⟨a, e, h⟩
  · cases e2
  · cases dicD_inj e2
    exact ⟨a, e1, q⟩
end

/-! ### the judgements -/
section
variable (T : Addr → Prop) (X : Cx) (es : List Ent)
def Ev (e : Expr) (S : D → Prop) : Prop := ∀ (p : Pr) (H : Hp) (σ : St) (Q : VK), Good T p H → EnvOk X.K p H σ es → (∀ H' v d, Gr0 p H H' → Rp X.K p.own H' v d → S d → Q v H') → wE X e σ H Q
def EvR (e : Expr) (S : D → Prop) : Prop := ∀ (p : Pr) (H : Hp) (σ : St) (Q : VK), Good T p H → EnvOk X.K p H σ es → (∀ H' v d, Gr0 p H H' → RpR X.K p H' v d → S d → Q v H') → wE X e σ H Q
def Tv (e : Expr) (S : Bool → Prop) : Prop := ∀ (p : Pr) (H : Hp) (σ : St) (Q : Bool → Hp → Prop), Good T p H → EnvOk X.K p H σ es → (∀ H' b, Gr0 p H H' → S b → Q b H') → wT X e σ H Q
def Wv (e : Expr) (S : Bool → Prop) : Prop := ∀ (p : Pr) (H : Hp) (σ : St) (Q : Bool → Hp → Prop), Good T p H → EnvOk X.K p H σ es → (∀ H' b, Gr0 p H H' → S b → Q b H') → wW X e σ H Q
def EntsOk (K : PySem.W.Frag) (p : Pr) (H : Hp) (vs : List V) (as : List Ent) : Prop := Paired (fun v a => EntOk K p H (some v) a) vs as
def Ar (l : List Expr) (S : List Ent → Prop) : Prop := ∀ (p : Pr) (H : Hp) (σ : St) (Q : List V → Hp → Prop), Good T p H → EnvOk X.K p H σ es → (∀ H' vs as, Gr0 p H H' → EntsOk X.K p H' vs as → S as → Q vs H') → wA X l σ H Q
end
section
variable {T : Addr → Prop} {X : Cx} {es : List Ent} {e a b c : Expr} {l : List Expr} {pos : Pos} {S A B C : D → Prop}
theorem Ev.imp (h : Ev T X es e A) (f : ∀ d, A d → S d) : Ev T X es e S := fun p H σ Q g o k => h p H σ Q g o fun H' v d g' r q => k H' v d g' r (f d q)
theorem Ev.r (h : Ev T X es e S) : EvR T X es e S := fun p H σ Q g o k => h p H σ Q g o fun H' v d g' r q => k H' v d g' (.inl r) q
theorem Tv.imp {A B : Bool → Prop} (h : Tv T X es e A) (f : ∀ d, A d → B d) : Tv T X es e B := fun p H σ Q g o k => h p H σ Q g o fun H' v g' q => k H' v g' (f v q)
theorem Wv.tv {A : Bool → Prop} (h : Wv T X es e A) : Tv T X es e A := fun p H σ Q g o k pins s I => (h p H σ Q g o k) _ pins s I

/-! names and constants -/
theorem ev_nm (i : Nat) {x : Str} {d : D} (he : es[i]? = some (.dat d) := by rfl) (hN : X.N[i]? = some x := by rfl) (hv : Vis X.env.scope x := by first | exact Or.inl rfl | exact Or.inr (Or.inl rfl) | exact Or.inr (Or.inr rfl)) (hd : (x == ("__debug__" : Str)) = false := by decide)
    (hcd : (x == ("__classdict__" : Str)) = false := by decide) : Ev T X es (.Name x pos) (Eq d) := fun p H σ Q g o k => by
  obtain ⟨v, e, r⟩ := o.dat he
  exact wE_of (pv i hN hv hd hcd) ⟨v, e, k H v d (.refl H) r rfl⟩
theorem evr_lst (i : Nat) {x : Str} {ds : List D} (he : es[i]? = some (.lst ds) := by rfl) (hN : X.N[i]? = some x := by rfl) (hv : Vis X.env.scope x := by first | exact Or.inl rfl | exact Or.inr (Or.inl rfl) | exact Or.inr (Or.inr rfl)) (hd : (x == ("__debug__" : Str)) = false := by decide)
    (hcd : (x == ("__classdict__" : Str)) = false := by decide) : EvR T X es (.Name x pos) (Eq (.list ds)) := fun p H σ Q g o k => by
  obtain ⟨a, xs, e, l, q, r⟩ := o.lst he
  exact wE_of (pv i hN hv hd hcd) ⟨_, e, k H _ _ (.refl H) (.inr (.inl ⟨a, xs, ds, rfl, rfl, l, q, r⟩)) rfl⟩
theorem evr_dic (i : Nat) {x : Str} {kvs : KD} (he : es[i]? = some (.dic kvs) := by rfl) (hN : X.N[i]? = some x := by rfl) (hv : Vis X.env.scope x := by first | exact Or.inl rfl | exact Or.inr (Or.inl rfl) | exact Or.inr (Or.inr rfl)) (hd : (x == ("__debug__" : Str)) = false := by decide)
    (hcd : (x == ("__classdict__" : Str)) = false := by decide) : EvR T X es (.Name x pos) (Eq (dicD kvs)) := fun p H σ Q g o k => by
  obtain ⟨a, e, l, q⟩ := o.dic he
  exact wE_of (pv i hN hv hd hcd) ⟨_, e, k H _ _ (.refl H) (.inr (.inr ⟨a, kvs, rfl, rfl, l, q⟩)) rfl⟩
theorem ev_int {i : Int} {j : Nat} : Ev T X es (.Constant (.int i) j pos) (Eq (.int i)) := fun p H σ Q g o k => wE_of pe_int (k H _ _ (.refl H) (.int i) rfl)
theorem ev_bl {i : Bool} {j : Nat} : Ev T X es (.Constant (.bool i) j pos) (Eq (.bool i)) := fun p H σ Q g o k => wE_of pe_bl (k H _ _ (.refl H) (.bl i) rfl)
theorem ev_non {j : Nat} : Ev T X es (.Constant .none j pos) (Eq .none) := fun p H σ Q g o k => wE_of pe_non (k H _ _ (.refl H) .non rfl)
theorem ev_globI {x : Str} {i : Int} {t : Tok} (hm : X.mg x = some (.int i t)) (hg : Gl X x := by rfl) (hd : (x == ("__debug__" : Str)) = false := by decide) : Ev T X es (.Name x pos) (Eq (.int i)) := fun p H σ Q g o k =>
  wE_of (pe_glob (v := .int i) hg hm ⟨t, rfl⟩ hd) (k H _ _ (.refl H) (.int i) rfl)

/-! operators by values -/
theorem ev_op {op : Operator} {r : R2} (ho : OpR X (binaryOp op) r) (ha : EvR T X es a A) (hb : EvR T X es b B)
    (h : ∀ (p : Pr) (H : Hp) (x y : V) (dx dy : D) (Q : VK), Good T p H → RpR X.K p H x dx → RpR X.K p H y dy → A dx → B dy → (∀ H' v d, Gr0 p H H' → Rp X.K p.own H' v d → S d → Q v H') → r x y H Q) :
    Ev T X es (.BinOp a op b pos) S := fun p H σ Q g o k =>
  wE_of (pe_op ho pe_w pe_w) (ha p H σ _ g o fun H1 x dx g1 r1 q1 => hb p H1 σ _ (g.go g1) (o.go g g1) fun H2 y dy g2 r2 q2 =>
    h p H2 x y dx dy Q ((g.go g1).go g2) (r1.go (g.go g1) g2) r2 q1 q2 fun H3 v d g3 r3 q3 => k H3 v d ((g1.trans g2).trans g3) r3 q3)
theorem ev_cmp {op : CmpOp} {r : R2} (ho : OpR X (compareOp op) r) (ha : EvR T X es a A) (hb : EvR T X es b B) (hm : behindInMarks op b = false)
    (h : ∀ (p : Pr) (H : Hp) (x y : V) (dx dy : D) (Q : VK), Good T p H → RpR X.K p H x dx → RpR X.K p H y dy → A dx → B dy → (∀ H' v d, Gr0 p H H' → Rp X.K p.own H' v d → S d → Q v H') → r x y H Q) :
    Ev T X es (.Compare a [op] [b] pos) S := fun p H σ Q g o k =>
  wE_of (pe_cmpR ho pe_w pe_w hm) (ha p H σ _ g o fun H1 x dx g1 r1 q1 => hb p H1 σ _ (g.go g1) (o.go g g1) fun H2 y dy g2 r2 q2 =>
    h p H2 x y dx dy Q ((g.go g1).go g2) (r1.go (g.go g1) g2) r2 q1 q2 fun H3 v d g3 r3 q3 => k H3 v d ((g1.trans g2).trans g3) r3 q3)
theorem RpR.int_v {K : PySem.W.Frag} {p : Pr} {H : Hp} {v : V} {i : Int} (r : RpR K p H v (.int i)) : v = .int i := by
  rcases r with r | ⟨a, xs, ds', e1, e2, l, q, r⟩ | ⟨a, kvs, e1, e2, l, q⟩
  · exact r.int_v
  · cases e2
  · cases e2
/-- two ints to an int -/
theorem ev_opI {op : Operator} {C : Int → Int → Prop} {f : Int → Int → Int} (ho : OpR X (binaryOp op) (rI C fun i j => .int (f i j))) (ha : Ev T X es a A) (hb : Ev T X es b B) (h : ∀ x y, A x → B y → ∃ i j, x = .int i ∧ y = .int j ∧ C i j ∧ S (.int (f i j))) :
    Ev T X es (.BinOp a op b pos) S := ev_op ho ha.r hb.r fun p H x y dx dy Q g r1 r2 q1 q2 k => by
  obtain ⟨i, j, rfl, rfl, hc, hs⟩ := h _ _ q1 q2
  exact ⟨i, j, r1.int_v, r2.int_v, hc, k H _ _ (.refl H) (.int _) hs⟩
theorem ev_opI0 {op : Operator} {f : Int → Int → Int} (ho : OpR X (binaryOp op) (rI0 fun i j => .int (f i j))) (ha : Ev T X es a A) (hb : Ev T X es b B) (h : ∀ x y, A x → B y → ∃ i j, x = .int i ∧ y = .int j ∧ S (.int (f i j))) :
    Ev T X es (.BinOp a op b pos) S := ev_op ho ha.r hb.r fun p H x y dx dy Q g r1 r2 q1 q2 k => by
  obtain ⟨i, j, rfl, rfl, hs⟩ := h _ _ q1 q2
  exact ⟨i, j, r1.int_v, r2.int_v, k H _ _ (.refl H) (.int _) hs⟩
theorem ev_cmpI {op : CmpOp} {f : Int → Int → Bool} (ho : OpR X (compareOp op) (rI0 fun i j => .bl (f i j))) (hm : behindInMarks op b = false) (ha : Ev T X es a A) (hb : Ev T X es b B) (h : ∀ x y, A x → B y → ∃ i j, x = .int i ∧ y = .int j ∧ S (.bool (f i j))) :
    Ev T X es (.Compare a [op] [b] pos) S := ev_cmp ho ha.r hb.r hm fun p H x y dx dy Q g r1 r2 q1 q2 k => by
  obtain ⟨i, j, rfl, rfl, hs⟩ := h _ _ q1 q2
  exact ⟨i, j, r1.int_v, r2.int_v, k H _ _ (.refl H) (.bl _) hs⟩
section
variable {i j : Int}
theorem ev_add (ha : Ev T X es a (Eq (.int i))) (hb : Ev T X es b (Eq (.int j))) : Ev T X es (.BinOp a .Add b pos) (Eq (.int (i + j))) := ev_opI0 op_add ha hb fun x y q1 q2 => ⟨i, j, q1.symm, q2.symm, rfl⟩
theorem ev_sub (ha : Ev T X es a (Eq (.int i))) (hb : Ev T X es b (Eq (.int j))) : Ev T X es (.BinOp a .Sub b pos) (Eq (.int (i - j))) := ev_opI0 op_sub ha hb fun x y q1 q2 => ⟨i, j, q1.symm, q2.symm, rfl⟩
theorem ev_mul (h : CMul i j) (ha : Ev T X es a (Eq (.int i))) (hb : Ev T X es b (Eq (.int j))) : Ev T X es (.BinOp a .Mult b pos) (Eq (.int (i * j))) := ev_opI op_mul ha hb fun x y q1 q2 => ⟨i, j, q1.symm, q2.symm, h, rfl⟩
theorem ev_mod (h : 0 < j) (ha : Ev T X es a (Eq (.int i))) (hb : Ev T X es b (Eq (.int j))) : Ev T X es (.BinOp a .Mod b pos) (Eq (.int (i % j))) := ev_opI op_mod ha hb fun x y q1 q2 => ⟨i, j, q1.symm, q2.symm, h, rfl⟩
theorem ev_fdiv (h : CDiv i j) (ha : Ev T X es a (Eq (.int i))) (hb : Ev T X es b (Eq (.int j))) : Ev T X es (.BinOp a .FloorDiv b pos) (Eq (.int (i / j))) := ev_opI op_fdiv ha hb fun x y q1 q2 => ⟨i, j, q1.symm, q2.symm, h, rfl⟩
theorem ev_neg (ha : Ev T X es a (Eq (.int i))) : Ev T X es (.UnaryOp .USub a pos) (Eq (.int (-i))) := fun p H σ Q g o k =>
  wE_of (pe_un un_neg pe_w) (ha p H σ _ g o fun H1 x dx g1 r1 q1 => by
    subst q1
    exact ⟨i, r1.int_v, k H1 _ _ g1 (.int _) rfl⟩)
theorem ev_lt (ha : Ev T X es a (Eq (.int i))) (hb : Ev T X es b (Eq (.int j))) : Ev T X es (.Compare a [.Lt] [b] pos) (Eq (.bool (decide (i < j)))) := ev_cmpI op_lt (nobehind _ (by decide) (by decide)) ha hb fun x y q1 q2 => ⟨i, j, q1.symm, q2.symm, rfl⟩
theorem ev_le (ha : Ev T X es a (Eq (.int i))) (hb : Ev T X es b (Eq (.int j))) : Ev T X es (.Compare a [.LtE] [b] pos) (Eq (.bool (decide (i ≤ j)))) := ev_cmpI op_le (nobehind _ (by decide) (by decide)) ha hb fun x y q1 q2 => ⟨i, j, q1.symm, q2.symm, rfl⟩
theorem ev_gt (ha : Ev T X es a (Eq (.int i))) (hb : Ev T X es b (Eq (.int j))) : Ev T X es (.Compare a [.Gt] [b] pos) (Eq (.bool (decide (j < i)))) := ev_cmpI op_gt (nobehind _ (by decide) (by decide)) ha hb fun x y q1 q2 => ⟨i, j, q1.symm, q2.symm, rfl⟩
theorem ev_ge (ha : Ev T X es a (Eq (.int i))) (hb : Ev T X es b (Eq (.int j))) : Ev T X es (.Compare a [.GtE] [b] pos) (Eq (.bool (decide (j ≤ i)))) := ev_cmpI op_ge (nobehind _ (by decide) (by decide)) ha hb fun x y q1 q2 => ⟨i, j, q1.symm, q2.symm, rfl⟩
end

/-! == and != of any data without dicts -/
mutual
def plain : D → Bool
  | .dict _ => false
  | .list ds => plains ds
  | .tuple ds => plains ds
  | .str _ => false
  | _ => true
def plains : List D → Bool
  | [] => true
  | d :: ds => plain d && plains ds
end
mutual
theorem Rp.dp {K : PySem.W.Frag} {O : Addr → Prop} {H : Hp} : ∀ {v : V} {d : D}, Rp K O H v d → plain d = true → Dp K H v d
  | _, _, .non, _ => .non
  | _, _, .bl b, _ => .bl b
  | _, _, .int i, _ => .int i
  | _, _, .lst h r, e => .lst h.sq (Rps.dp r (by simpa [plain] using e))
  | _, _, .tup h r, e => .tup h.sq (Rps.dp r (by simpa [plain] using e))
  | _, _, .dic n h e, q => by
    rw [e] at q
    simp [dicD, plain] at q
theorem Rps.dp {K : PySem.W.Frag} {O : Addr → Prop} {H : Hp} : ∀ {vs : List V} {ds : List D}, Rps K O H vs ds → plains ds = true → DpAll K H vs ds
  | _, _, .nil, _ => .nil
  | _, _, .cons h r, e => .cons (Rp.dp h (by simp [plains] at e; exact e.1)) (Rps.dp r (by simp [plains] at e; exact e.2))
end
end
end DL
end
section
set_option Elab.async false
set_option linter.all false
set_option autoImplicit false
set_option maxRecDepth 100000
set_option maxHeartbeats 2000000
/-! Comparisons, tests, and, or, not, displays, subscripts. -/
namespace DL
open PySem PySem.Spec L2
open PyProof.Rows hiding St
section
variable {T : Addr → Prop} {X : Cx} {es : List Ent} {e a b c : Expr} {l rest : List Expr} {pos : Pos} {S A B C : D → Prop} {op op' : CmpOp}

/-! ### comparisons, as values and as tests -/
def wC (X : Cx) (op : CmpOp) (a b : Expr) : TE := fun σ H Q => ∀ (pins : List (Addr × Obj)) (s : Shared), Inv X pins σ H s →
    wpAny (model X.prog X.w) X.A (eval a X.env) (fun v s₁ => wpAny (model X.prog X.w) X.A (eval b X.env) (fun u s₂ => wpAny (model X.prog X.w) X.A (compareOp op v u) (EP X pins σ Q) X.xe s₂) X.xe s₁) X.xe s
theorem pc_w : PC X op a b (wC X op a b) := ⟨fun pins s _ _ _ I h => h pins s I⟩
def Cv (T : Addr → Prop) (X : Cx) (es : List Ent) (op : CmpOp) (a b : Expr) (S : D → Prop) : Prop := ∀ (p : Pr) (H : Hp) (σ : St) (Q : VK), Good T p H → EnvOk X.K p H σ es → (∀ H' v d, Gr0 p H H' → Rp X.K p.own H' v d → S d → Q v H') → wC X op a b σ H Q
theorem Cv.ev (h : Cv T X es op a b S) (hm : behindInMarks op b = false) : Ev T X es (.Compare a [op] [b] pos) S := fun p H σ Q g o k => wE_of (pe_cmp pc_w hm) (h p H σ Q g o k)
theorem Cv.tv {k : Bool → Prop} (h : Cv T X es op a b fun d => ∃ z, d = .bool z ∧ k z) (hm : behindInMarks op b = false) : Tv T X es (.Compare a [op] [b] pos) k := fun p H σ Q g o q =>
  wT_of (pt_cmp pc_w hm) (h p H σ _ g o fun H' v d g' r ⟨z, e, hk⟩ => by
    subst e
    exact ⟨z, r.bl_v, q H' z g' hk⟩)
theorem Cv.imp (h : Cv T X es op a b A) (f : ∀ d, A d → S d) : Cv T X es op a b S := fun p H σ Q g o k => h p H σ Q g o fun H' v d g' r q => k H' v d g' r (f d q)
theorem Cv.evb {z : Bool} (h : Cv T X es op a b (Eq (.bool z))) (hm : behindInMarks op b = false) : Ev T X es (.Compare a [op] [b] pos) (Eq (.bool z)) := h.ev hm
theorem Cv.tvb {z : Bool} (h : Cv T X es op a b (Eq (.bool z))) (hm : behindInMarks op b = false) : Tv T X es (.Compare a [op] [b] pos) (Eq z) := Cv.tv (h.imp fun d e => ⟨z, e.symm, rfl⟩) hm
theorem cv_op {r : R2} (ho : OpR X (compareOp op) r) (ha : EvR T X es a A) (hb : EvR T X es b B)
    (h : ∀ (p : Pr) (H : Hp) (x y : V) (dx dy : D) (Q : VK), Good T p H → RpR X.K p H x dx → RpR X.K p H y dy → A dx → B dy → (∀ H' v d, Gr0 p H H' → Rp X.K p.own H' v d → S d → Q v H') → r x y H Q) :
    Cv T X es op a b S := fun p H σ Q g o k pins s I =>
  binT pe_w pe_w I (ha p H σ _ g o fun H1 x dx g1 r1 q1 => hb p H1 σ (fun y H2 => r x y H2 Q) (g.go g1) (o.go g g1) fun H2 y dy g2 r2 q2 =>
    h p H2 x y dx dy Q ((g.go g1).go g2) (r1.go (g.go g1) g2) r2 q1 q2 fun H3 v d g3 r3 q3 => k H3 v d ((g1.trans g2).trans g3) r3 q3)
    fun v u s2 x y H2 I2 rx ry q => ho pins s2 σ H2 x y v u Q I2 rx ry q
theorem cv_I {f : Int → Int → Bool} (ho : OpR X (compareOp op) (rI0 fun i j => .bl (f i j))) (ha : Ev T X es a A) (hb : Ev T X es b B) (h : ∀ x y, A x → B y → ∃ i j, x = .int i ∧ y = .int j ∧ S (.bool (f i j))) :
    Cv T X es op a b S := cv_op ho ha.r hb.r fun p H x y dx dy Q g r1 r2 q1 q2 k => by
  obtain ⟨i, j, rfl, rfl, hs⟩ := h _ _ q1 q2
  exact ⟨i, j, r1.int_v, r2.int_v, k H _ _ (.refl H) (.bl _) hs⟩
section
variable {i j : Int}
theorem cv_lt (ha : Ev T X es a (Eq (.int i))) (hb : Ev T X es b (Eq (.int j))) : Cv T X es .Lt a b (Eq (.bool (decide (i < j)))) := cv_I op_lt ha hb fun x y q1 q2 => ⟨i, j, q1.symm, q2.symm, rfl⟩
theorem cv_le (ha : Ev T X es a (Eq (.int i))) (hb : Ev T X es b (Eq (.int j))) : Cv T X es .LtE a b (Eq (.bool (decide (i ≤ j)))) := cv_I op_le ha hb fun x y q1 q2 => ⟨i, j, q1.symm, q2.symm, rfl⟩
theorem cv_gt (ha : Ev T X es a (Eq (.int i))) (hb : Ev T X es b (Eq (.int j))) : Cv T X es .Gt a b (Eq (.bool (decide (j < i)))) := cv_I op_gt ha hb fun x y q1 q2 => ⟨i, j, q1.symm, q2.symm, rfl⟩
theorem cv_ge (ha : Ev T X es a (Eq (.int i))) (hb : Ev T X es b (Eq (.int j))) : Cv T X es .GtE a b (Eq (.bool (decide (j ≤ i)))) := cv_I op_ge ha hb fun x y q1 q2 => ⟨i, j, q1.symm, q2.symm, rfl⟩
theorem op_eqI : OpR X (compareOp .Eq) (rI0 fun i j => .bl (decide (i = j))) := opB0 fun _ _ _ _ _ _ _ q => eq_int (by rw [Bool.beq_eq_decide_eq]; exact q)
theorem op_neI : OpR X (compareOp .NotEq) (rI0 fun i j => .bl (!decide (i = j))) := opB0 fun _ _ _ _ _ _ _ q => ne_int (by rw [bne, Bool.beq_eq_decide_eq]; exact q)
theorem cv_eq (ha : Ev T X es a (Eq (.int i))) (hb : Ev T X es b (Eq (.int j))) : Cv T X es .Eq a b (Eq (.bool (decide (i = j)))) := cv_I op_eqI ha hb fun x y q1 q2 => ⟨i, j, q1.symm, q2.symm, rfl⟩
theorem cv_ne (ha : Ev T X es a (Eq (.int i))) (hb : Ev T X es b (Eq (.int j))) : Cv T X es .NotEq a b (Eq (.bool (!decide (i = j)))) := cv_I op_neI ha hb fun x y q1 q2 => ⟨i, j, q1.symm, q2.symm, rfl⟩
end
/-! data at any depth -/
theorem RpR.dp {K : PySem.W.Frag} {p : Pr} {H : Hp} {v : V} {d : D} (r : RpR K p H v d) (h : plain d = true) : Dp K H v d := by
  rcases r with r | ⟨a, xs, ds', e1, e2, l, q, r⟩ | ⟨a, kvs, e1, e2, l, q⟩
  · exact r.dp h
  · subst e1 e2
    exact .lst (.inl (.inl q)) (r.dp (by simpa [plain] using h))
  · subst e2
    simp [dicD, plain] at h
mutual
/-- of a depth of at most n, without dicts, texts -/
def shp : Nat → D → Bool
  | _, .none => true
  | _, .bool _ => true
  | _, .int _ => true
  | _, .str _ => false
  | 0, .list _ => false
  | 0, .tuple _ => false
  | n + 1, .list ds => shps n ds
  | n + 1, .tuple ds => shps n ds
  | _, .dict _ => false
def shps : Nat → List D → Bool
  | _, [] => true
  | n, d :: ds => shp n d && shps n ds
end
mutual
theorem shp_plain : ∀ {n : Nat} {d : D}, shp n d = true → plain d = true
  | _, .none, _ => rfl
  | _, .bool _, _ => rfl
  | _, .int _, _ => rfl
  | _, .str _, h => by cases h
  | 0, .list _, h => by cases h
  | 0, .tuple _, h => by cases h
  | n + 1, .list ds, h => by rw [plain]; exact shps_plain (n := n) (by rw [shp] at h; exact h)
  | n + 1, .tuple ds, h => by rw [plain]; exact shps_plain (n := n) (by rw [shp] at h; exact h)
  | _, .dict _, h => by cases h
theorem shps_plain : ∀ {n : Nat} {ds : List D}, shps n ds = true → plains ds = true
  | _, [], _ => rfl
  | n, d :: ds, h => by
    rw [shps, Bool.and_eq_true] at h
    rw [plains, Bool.and_eq_true]
    exact ⟨shp_plain h.1, shps_plain h.2⟩
end
mutual
theorem shp_lay : ∀ {n : Nat} {d : D}, shp n d = true → d.canLay0 = true ∧ d.depth ≤ n
  | _, .none, _ => ⟨rfl, by simp [PyData.depth]⟩
  | _, .bool _, _ => ⟨rfl, by simp [PyData.depth]⟩
  | _, .int _, _ => ⟨rfl, by simp [PyData.depth]⟩
  | _, .str _, h => by cases h
  | 0, .list _, h => by cases h
  | 0, .tuple _, h => by cases h
  | n + 1, .list ds, h => by
    have q := shps_lay (n := n) (ds := ds) (by rw [shp] at h; exact h)
    exact ⟨by rw [PyData.canLay0]; exact q.1, by rw [PyData.depth]; exact Nat.succ_le_succ q.2⟩
  | n + 1, .tuple ds, h => by
    have q := shps_lay (n := n) (ds := ds) (by rw [shp] at h; exact h)
    exact ⟨by rw [PyData.canLay0]; exact q.1, by rw [PyData.depth]; exact Nat.succ_le_succ q.2⟩
  | _, .dict _, h => by cases h
theorem shps_lay : ∀ {n : Nat} {ds : List D}, shps n ds = true → PyData.canLayAll0 ds = true ∧ PyData.depthAll ds ≤ n
  | _, [], _ => ⟨rfl, by simp [PyData.depthAll]⟩
  | n, d :: ds, h => by
    rw [shps, Bool.and_eq_true] at h
    have q1 := shp_lay h.1
    have q2 := shps_lay h.2
    exact ⟨by rw [PyData.canLayAll0, q1.1, q2.1] <;> rfl, by rw [PyData.depthAll]; exact Nat.max_le.mpr ⟨q1.2, q2.2⟩⟩
end
theorem shp_shaped {n : Nat} {d : D} (h : shp n d = true) (hn : n ≤ 64) : SeqAt.shaped d = true := by
  have q := shp_lay h
  unfold SeqAt.shaped
  rw [q.1, decide_eq_true (Nat.le_trans q.2 hn)] <;> rfl
theorem shps_mapI {n : Nat} : ∀ ns : List Int, shps n (ns.map .int) = true
  | [] => rfl
  | i :: ns => by
    rw [List.map_cons, shps, shps_mapI ns]
    cases n <;> rfl
theorem shps_map {α : Type} {n : Nat} {f : α → D} (h : ∀ x, shp n (f x) = true) : ∀ l : List α, shps n (l.map f) = true
  | [] => rfl
  | x :: l => by rw [List.map_cons, shps, shps_map h l, h x] <;> rfl
theorem shps_mem {n : Nat} : ∀ {l : List D}, (∀ d ∈ l, shp n d = true) → shps n l = true
  | [], _ => rfl
  | x :: l, h => by rw [shps, shps_mem fun d hd => h d (List.mem_cons_of_mem _ hd), h x List.mem_cons_self] <;> rfl
theorem cv_eqD {dx dy : D} {n : Nat} {k : Nat} (hr : Room k X.A) (ha : EvR T X es a (Eq dx)) (hb : EvR T X es b (Eq dy)) (sx : shp n dx = true) (sy : shp n dy = true) (hn : n ≤ 64 := by decide) : Cv T X es .Eq a b (Eq (.bool (PyData.eqv dx dy))) :=
  cv_op (op_eqD hr.units) ha hb fun p H x y dx' dy' Q g r1 r2 q1 q2 k => by
    subst q1 q2
    exact ⟨dx, dy, r1.dp (shp_plain sx), r2.dp (shp_plain sy), shp_shaped sx hn, shp_shaped sy hn, k H _ _ (.refl H) (.bl _) rfl⟩
theorem cv_neD {dx dy : D} {n : Nat} {k : Nat} (hr : Room k X.A) (ha : EvR T X es a (Eq dx)) (hb : EvR T X es b (Eq dy)) (sx : shp n dx = true) (sy : shp n dy = true) (hn : n ≤ 64 := by decide) : Cv T X es .NotEq a b (Eq (.bool (!PyData.eqv dx dy))) :=
  cv_op (op_neD hr.units) ha hb fun p H x y dx' dy' Q g r1 r2 q1 q2 k => by
    subst q1 q2
    exact ⟨dx, dy, r1.dp (shp_plain sx), r2.dp (shp_plain sy), shp_shaped sx hn, shp_shaped sy hn, k H _ _ (.refl H) (.bl _) rfl⟩
mutual
/-- no bools within: there == is = -/
def noB : D → Bool
  | .bool _ => false
  | .none => true
  | .int _ => true
  | .str _ => false
  | .dict _ => false
  | .list ds => noBs ds
  | .tuple ds => noBs ds
def noBs : List D → Bool
  | [] => true
  | d :: ds => noB d && noBs ds
end
mutual
theorem eqv_iff : ∀ {x y : D}, noB x = true → noB y = true → (PyData.eqv x y = true ↔ x = y)
  | .bool _, _, h, _ => by cases h
  | .str _, _, h, _ => by cases h
  | .dict _, _, h, _ => by cases h
  | _, .bool _, _, h => by cases h
  | _, .str _, _, h => by cases h
  | _, .dict _, _, h => by cases h
  | .none, .none, _, _ => by simp [PyData.eqv]
  | .none, .int _, _, _ => by simp [PyData.eqv]
  | .none, .list _, _, _ => by simp [PyData.eqv]
  | .none, .tuple _, _, _ => by simp [PyData.eqv]
  | .int _, .none, _, _ => by simp [PyData.eqv]
  | .int _, .int _, _, _ => by simp [PyData.eqv]
  | .int _, .list _, _, _ => by simp [PyData.eqv]
  | .int _, .tuple _, _, _ => by simp [PyData.eqv]
  | .list _, .none, _, _ => by simp [PyData.eqv]
  | .list _, .int _, _, _ => by simp [PyData.eqv]
  | .list xs, .list ys, h1, h2 => by
    rw [PyData.eqv, PyData.list.injEq]
    exact eqvs_iff (by rw [noB] at h1; exact h1) (by rw [noB] at h2; exact h2)
  | .list _, .tuple _, _, _ => by simp [PyData.eqv]
  | .tuple _, .none, _, _ => by simp [PyData.eqv]
  | .tuple _, .int _, _, _ => by simp [PyData.eqv]
  | .tuple _, .list _, _, _ => by simp [PyData.eqv]
  | .tuple xs, .tuple ys, h1, h2 => by
    rw [PyData.eqv, PyData.tuple.injEq]
    exact eqvs_iff (by rw [noB] at h1; exact h1) (by rw [noB] at h2; exact h2)
theorem eqvs_iff : ∀ {xs ys : List D}, noBs xs = true → noBs ys = true → (PyData.eqvAll xs ys = true ↔ xs = ys)
  | [], [], _, _ => by simp [PyData.eqvAll]
  | [], _ :: _, _, _ => by simp [PyData.eqvAll]
  | _ :: _, [], _, _ => by simp [PyData.eqvAll]
  | x :: xs, y :: ys, h1, h2 => by
    rw [noBs, Bool.and_eq_true] at h1 h2
    rw [PyData.eqvAll, Bool.and_eq_true, eqv_iff h1.1 h2.1, eqvs_iff h1.2 h2.2, List.cons.injEq]
end
theorem noBs_mapI : ∀ ns : List Int, noBs (ns.map .int) = true
  | [] => rfl
  | i :: ns => by
    rw [List.map_cons, noBs, noBs_mapI ns] <;> rfl
theorem noBs_mem : ∀ {l : List D}, (∀ d ∈ l, noB d = true) → noBs l = true
  | [], _ => rfl
  | x :: l, h => by rw [noBs, noBs_mem fun d hd => h d (List.mem_cons_of_mem _ hd), h x List.mem_cons_self] <;> rfl
theorem eqv_dec {x y : D} {z : Bool} (h1 : noB x = true) (h2 : noB y = true) (h : z = true ↔ x = y) : PyData.eqv x y = z := by
  rw [Bool.eq_iff_iff, eqv_iff h1 h2, h]

/-! None -/
def isNon : D → Bool
  | .none => true
  | _ => false
theorem cv_isN {d : D} {j : Nat} {p1 : Pos} (ha : Ev T X es a (Eq d)) : Cv T X es .Is a (.Constant .none j p1) (Eq (.bool (isNon d))) := fun p H σ Q g o k pins s I =>
  (pc_isN (j := j) (pos' := p1) (pe_w (X := X) (e := a))).run pins s σ H Q I (ha p H σ (fun x H1 => Q (.bl (decide (x = .non))) H1) g o fun H' v d' g' r q => by
    subst q
    have e : decide (v = .non) = isNon d := by
      cases r <;> first | rfl | (rename_i e; subst e; rfl)
    rw [e]
    exact k H' _ _ g' (.bl _) rfl)
theorem cv_notN {d : D} {j : Nat} {p1 : Pos} (ha : Ev T X es a (Eq d)) : Cv T X es .IsNot a (.Constant .none j p1) (Eq (.bool (!isNon d))) := fun p H σ Q g o k pins s I =>
  (pc_notN (j := j) (pos' := p1) (pe_w (X := X) (e := a))).run pins s σ H Q I (ha p H σ (fun x H1 => Q (.bl (!decide (x = .non))) H1) g o fun H' v d' g' r q => by
    subst q
    have e : (!decide (v = .non)) = !isNon d := by
      cases r <;> first | rfl | (rename_i e; subst e; rfl)
    rw [e]
    exact k H' _ _ g' (.bl _) rfl)

/-! chains -/
theorem ev_chainI {f f' : Int → Int → Bool} {i j k : Int} (ho : OpR X (compareOp op) (rI0 fun i j => .bl (f i j))) (ho' : OpR X (compareOp op') (rI0 fun i j => .bl (f' i j))) (ha : Ev T X es a (Eq (.int i))) (hb : Ev T X es b (Eq (.int j))) (hc : f i j = true → Ev T X es c (Eq (.int k)))
    (hm : lastMarks [op, op'] [b, c] = false := by with_unfolding_all rfl) : Ev T X es (.Compare a [op, op'] [b, c] pos) (Eq (.bool (f i j && f' j k))) := fun p H σ Q g o kk =>
  wE_of (pe_chain ho ho' pe_w pe_w pe_w hm) (ha p H σ _ g o fun H1 x dx g1 r1 q1 => hb p H1 σ _ (g.go g1) (o.go g g1) fun H2 y dy g2 r2 q2 => by
    subst q1 q2
    refine ⟨i, j, (r1.mono g2.mono).int_v, r2.int_v, f i j, rfl, ?_⟩
    have g12 := g1.trans g2
    cases hf : f i j with
    | true =>
      rw [if_pos rfl]
      refine hc hf p H2 σ _ (g.go g12) (o.go g g12) fun H3 z dz g3 r3 q3 => ?_
      subst q3
      exact ⟨j, k, (r2.mono g3.mono).int_v, r3.int_v, kk H3 _ _ (g12.trans g3) (.bl _) (by rw [hf] <;> rfl)⟩
    | false =>
      rw [if_neg Bool.false_ne_true]
      exact kk H2 _ _ g12 (.bl _) (by rw [hf] <;> rfl))
theorem tv_chainI {f f' : Int → Int → Bool} {i j k : Int} (ho : OpR X (compareOp op) (rI0 fun i j => .bl (f i j))) (ho' : OpR X (compareOp op') (rI0 fun i j => .bl (f' i j))) (ha : Ev T X es a (Eq (.int i))) (hb : Ev T X es b (Eq (.int j))) (hc : f i j = true → Ev T X es c (Eq (.int k)))
    (hm : lastMarks [op, op'] [b, c] = false := by with_unfolding_all rfl) : Tv T X es (.Compare a [op, op'] [b, c] pos) (Eq (f i j && f' j k)) := fun p H σ Q g o kk =>
  wT_of (pt_chain ho ho' pe_w pe_w pe_w hm) (ha p H σ _ g o fun H1 x dx g1 r1 q1 => hb p H1 σ _ (g.go g1) (o.go g g1) fun H2 y dy g2 r2 q2 => by
    subst q1 q2
    refine ⟨i, j, (r1.mono g2.mono).int_v, r2.int_v, f i j, rfl, ?_⟩
    have g12 := g1.trans g2
    cases hf : f i j with
    | true =>
      rw [if_pos rfl]
      refine hc hf p H2 σ _ (g.go g12) (o.go g g12) fun H3 z dz g3 r3 q3 => ?_
      subst q3
      exact ⟨j, k, (r2.mono g3.mono).int_v, r3.int_v, _, rfl, kk H3 _ (g12.trans g3) (by rw [hf] <;> rfl)⟩
    | false =>
      rw [if_neg Bool.false_ne_true]
      exact ⟨_, rfl, kk H2 _ g12 (by rw [hf] <;> rfl)⟩)

/-! ### and, or, not, if -/
theorem ev_one {op : BoolOp} (h : Ev T X es a S) : Ev T X es (.BoolOp op [a] pos) S := fun p H σ Q g o k => wE_of (pe_one pe_w) (h p H σ Q g o k)
theorem ev_and {x y : Bool} (ha : Ev T X es a (Eq (.bool x))) (hb : x = true → Ev T X es (.BoolOp .And (b :: rest) pos) (Eq (.bool y))) : Ev T X es (.BoolOp .And (a :: b :: rest) pos) (Eq (.bool (x && y))) := fun p H σ Q g o k =>
  wE_of (pe_and pe_w pe_w) (ha p H σ _ g o fun H1 v d g1 r1 q1 => by
    subst q1
    refine ⟨x, r1.bl_v, ?_⟩
    cases x with
    | true => exact hb rfl p H1 σ _ (g.go g1) (o.go g g1) fun H2 v d g2 r2 q2 => k H2 v d (g1.trans g2) r2 q2
    | false => exact k H1 _ _ g1 (.bl _) rfl)
theorem ev_or {x y : Bool} (ha : Ev T X es a (Eq (.bool x))) (hb : x = false → Ev T X es (.BoolOp .Or (b :: rest) pos) (Eq (.bool y))) : Ev T X es (.BoolOp .Or (a :: b :: rest) pos) (Eq (.bool (x || y))) := fun p H σ Q g o k =>
  wE_of (pe_or pe_w pe_w) (ha p H σ _ g o fun H1 v d g1 r1 q1 => by
    subst q1
    refine ⟨x, r1.bl_v, ?_⟩
    cases x with
    | false => exact hb rfl p H1 σ _ (g.go g1) (o.go g g1) fun H2 v d g2 r2 q2 => k H2 v d (g1.trans g2) r2 q2
    | true => exact k H1 _ _ g1 (.bl _) rfl)
theorem ev_not {x : Bool} (ha : Ev T X es a (Eq (.bool x))) : Ev T X es (.UnaryOp .Not a pos) (Eq (.bool (!x))) := fun p H σ Q g o k =>
  wE_of (pe_not pe_w) (ha p H σ _ g o fun H1 v d g1 r1 q1 => by
    subst q1
    exact ⟨x, r1.bl_v, k H1 _ _ g1 (.bl _) rfl⟩)
theorem ev_ifE {A : Bool → Prop} (hc : Tv T X es c A) (h1 : A true → Ev T X es a S) (h2 : A false → Ev T X es b S) : Ev T X es (.IfExp c a b pos) S := fun p H σ Q g o k =>
  wE_of (pe_ifExp pt_w pe_w pe_w) (hc p H σ _ g o fun H1 z g1 q1 => by
    cases z with
    | true => exact iteT (h1 q1 p H1 σ _ (g.go g1) (o.go g g1) fun H2 v d g2 r2 q2 => k H2 v d (g1.trans g2) r2 q2)
    | false => exact iteF (h2 q1 p H1 σ _ (g.go g1) (o.go g g1) fun H2 v d g2 r2 q2 => k H2 v d (g1.trans g2) r2 q2))
theorem wv_and1 {A : Bool → Prop} (h : Tv T X es a A) : Wv T X es (.BoolOp .And [a] pos) A := fun p H σ Q g o k => wW_of (pw_and1 pt_w) (h p H σ Q g o k)
theorem wv_or1 {A : Bool → Prop} (h : Tv T X es a A) : Wv T X es (.BoolOp .Or [a] pos) A := fun p H σ Q g o k => wW_of (pw_or1 pt_w) (h p H σ Q g o k)
theorem wv_andS {A B : Bool → Prop} (ha : Tv T X es a A) (hb : A true → Wv T X es (.BoolOp .And (b :: rest) pos) B) (hf : A false → B false) : Wv T X es (.BoolOp .And (a :: b :: rest) pos) B := fun p H σ Q g o k =>
  wW_of (pw_and pt_w pw_w) (ha p H σ _ g o fun H1 z g1 q1 => by
    cases z with
    | true => exact iteT (hb q1 p H1 σ _ (g.go g1) (o.go g g1) fun H2 v g2 q2 => k H2 v (g1.trans g2) q2)
    | false => exact iteF (k H1 _ g1 (hf q1)))
theorem wv_orS {A B : Bool → Prop} (ha : Tv T X es a A) (hb : A false → Wv T X es (.BoolOp .Or (b :: rest) pos) B) (hf : A true → B true) : Wv T X es (.BoolOp .Or (a :: b :: rest) pos) B := fun p H σ Q g o k =>
  wW_of (pw_or pt_w pw_w) (ha p H σ _ g o fun H1 z g1 q1 => by
    cases z with
    | false => exact iteF (hb q1 p H1 σ _ (g.go g1) (o.go g g1) fun H2 v g2 q2 => k H2 v (g1.trans g2) q2)
    | true => exact iteT (k H1 _ g1 (hf q1)))
theorem wv_and {x y : Bool} (ha : Tv T X es a (Eq x)) (hb : x = true → Wv T X es (.BoolOp .And (b :: rest) pos) (Eq y)) : Wv T X es (.BoolOp .And (a :: b :: rest) pos) (Eq (x && y)) :=
  wv_andS ha (fun q p H σ Q g o k => (hb q) p H σ Q g o fun H' b g' e => k H' b g' (by rw [q, ← e] <;> rfl)) fun q => by rw [q] <;> rfl
theorem wv_or {x y : Bool} (ha : Tv T X es a (Eq x)) (hb : x = false → Wv T X es (.BoolOp .Or (b :: rest) pos) (Eq y)) : Wv T X es (.BoolOp .Or (a :: b :: rest) pos) (Eq (x || y)) :=
  wv_orS ha (fun q p H σ Q g o k => (hb q) p H σ Q g o fun H' b g' e => k H' b g' (by rw [q, ← e] <;> rfl)) fun q => by rw [q] <;> rfl
theorem tv_not {A : Bool → Prop} (h : Tv T X es a A) : Tv T X es (.UnaryOp .Not a pos) (fun z => A (!z)) := fun p H σ Q g o k => wT_of (pt_not pt_w) (h p H σ _ g o fun H1 z g1 q1 => k H1 _ g1 (show A (!!z) by rw [Bool.not_not]; exact q1))
theorem tv_notb {x : Bool} (h : Tv T X es a (Eq x)) : Tv T X es (.UnaryOp .Not a pos) (Eq (!x)) := (tv_not h).imp fun z e => by rw [e, Bool.not_not]
/-- an expression whose value is a bool -/
theorem tv_v {A : Bool → Prop} (h : Ev T X es e fun d => ∃ z, d = .bool z ∧ A z) (he : ∀ whole, isTrue e X.env whole = (do let v ← whole; standAt e.pos; holding [v] (truthy v)) := by intro _; rfl) : Tv T X es e A := fun p H σ Q g o k =>
  wT_of (pt_val pe_w he) (h p H σ _ g o fun H1 v d g1 r1 ⟨z, e, q1⟩ => by
    subst e
    exact ⟨z, r1.bl_v, k H1 z g1 q1⟩)
theorem tv_b {x : Bool} (h : Ev T X es e (Eq (.bool x))) (he : ∀ whole, isTrue e X.env whole = (do let v ← whole; standAt e.pos; holding [v] (truthy v)) := by intro _; rfl) : Tv T X es e (Eq x) := tv_v (h.imp fun d q => ⟨x, q.symm, rfl⟩) he
/-- a list's, a tuple's truth -/
theorem tv_lst {ds : List D} (h : EvR T X es e (Eq (.list ds))) (he : ∀ whole, isTrue e X.env whole = (do let v ← whole; standAt e.pos; holding [v] (truthy v)) := by intro _; rfl) : Tv T X es e (Eq (!ds.isEmpty)) := fun p H σ Q g o k =>
  wT_of (pt_truth pe_w he) (h p H σ _ g o fun H1 v d g1 r1 q1 => by
    subst q1
    obtain ⟨a, xs, e, hq, r⟩ := r1.lst
    subst e
    refine ⟨!ds.isEmpty, .inl ⟨xs, .of hq, ?_⟩, k H1 _ g1 rfl⟩
    cases r <;> rfl)
theorem tv_tup {ds : List D} (h : EvR T X es e (Eq (.tuple ds))) (he : ∀ whole, isTrue e X.env whole = (do let v ← whole; standAt e.pos; holding [v] (truthy v)) := by intro _; rfl) : Tv T X es e (Eq (!ds.isEmpty)) := fun p H σ Q g o k =>
  wT_of (pt_truth pe_w he) (h p H σ _ g o fun H1 v d g1 r1 q1 => by
    subst q1
    obtain ⟨a, xs, e, hq, r⟩ := r1.tup
    subst e
    refine ⟨!ds.isEmpty, .inr (.inl ⟨xs, hq, ?_⟩), k H1 _ g1 rfl⟩
    cases r <;> rfl)
end
end DL
end
section
set_option Elab.async false
set_option linter.all false
set_option autoImplicit false
set_option maxRecDepth 100000
set_option maxHeartbeats 2000000
/-! Displays, subscripts, slices, dicts, built-ins, calls of defs. -/
namespace DL
open PySem PySem.Spec L2
open PyProof.Rows hiding St

/-! ### a new object -/
section
variable {T : Addr → Prop} {p : Pr} {H : Hp} {q : Addr} {o : HO}
theorem Good.nown (g : Good T p H) (h : H q = none) : ¬ p.own q := fun z => by
  obtain ⟨x, e⟩ := g.there q z
  rw [h] at e
  cases e
theorem same_new (h : H q = none) : Same H (upd H q o) := fun b x e => by
  rw [upd_ne (ne_of_none e h)]
  exact e
theorem gr_new (h : H q = none) : Gr0 p H (upd H q o) := .of_same (same_new h)
theorem rp_newT {K : PySem.W.Frag} {xs : List V} {ds : List D} (g : Good T p H) (h : H q = none) (r : Rps K p.own H xs ds) : Rp K p.own (upd H q (.tup xs)) (.ref q) (.tuple ds) :=
  .tup (.inl ⟨g.nown h, upd_same⟩) (r.mono (gr_new h).mono)
theorem rp_newL {K : PySem.W.Frag} {xs : List V} {ds : List D} (g : Good T p H) (h : H q = none) (r : Rps K p.own H xs ds) : Rp K p.own (upd H q (.lst xs)) (.ref q) (.list ds) :=
  .lst ⟨g.nown h, upd_same⟩ (r.mono (gr_new h).mono)
end

section
variable (T : Addr → Prop) (X : Cx) (es : List Ent)
/-- several expressions, from the left -/
def Evs (l : List Expr) (S : List D → Prop) : Prop := ∀ (p : Pr) (H : Hp) (σ : St) (Q : List V → Hp → Prop), Good T p H → EnvOk X.K p H σ es → (∀ H' vs ds, Gr0 p H H' → Rps X.K p.own H' vs ds → S ds → Q vs H') → wA X l σ H Q
end
section
variable {T : Addr → Prop} {X : Cx} {es : List Ent} {e a b c : Expr} {l rest : List Expr} {pos : Pos} {S A B C : D → Prop}
theorem evs_nil : Evs T X es [] (Eq []) := fun p H σ Q g o k => wA_of pa_nil (k H _ _ (.refl H) .nil rfl)
theorem evs_consS {A : D → Prop} {B : List D → Prop} (ha : Ev T X es e A) (hr : Evs T X es l B) (hs : starEach (e :: l) X.env = (false, eval e X.env) :: starEach l X.env := by rfl) : Evs T X es (e :: l) (fun ds => ∃ d r, ds = d :: r ∧ A d ∧ B r) := fun p H σ Q g o k =>
  wA_of (pa_cons pe_w pa_w hs) (ha p H σ _ g o fun H1 v d g1 r1 q1 => hr p H1 σ _ (g.go g1) (o.go g g1) fun H2 vs ds g2 r2 q2 => k H2 _ _ (g1.trans g2) (.cons (r1.mono g2.mono) r2) ⟨d, ds, rfl, q1, q2⟩)
theorem Evs.imp {A B : List D → Prop} (h : Evs T X es l A) (f : ∀ d, A d → B d) : Evs T X es l B := fun p H σ Q g o k => h p H σ Q g o fun H' v d g' r q => k H' v d g' r (f d q)
theorem evs_cons {d : D} {ds : List D} (ha : Ev T X es e (Eq d)) (hr : Evs T X es l (Eq ds)) (hs : starEach (e :: l) X.env = (false, eval e X.env) :: starEach l X.env := by rfl) : Evs T X es (e :: l) (Eq (d :: ds)) :=
  (evs_consS ha hr hs).imp fun ds ⟨d, r, e, q1, q2⟩ => by rw [e, q1, q2]
theorem ev_tupS {x1 : Nat} {B : List D → Prop} (h : Evs T X es l B) (hl : ∀ ds, B ds → ds.length ≤ sizeLine) : Ev T X es (.Tuple l x1 pos) (fun d => ∃ ds, d = .tuple ds ∧ B ds) := fun p H σ Q g o k =>
  wE_of (pe_tup pa_w) (h p H σ _ g o fun H1 vs ds g1 r1 q1 => ⟨by rw [r1.length]; exact hl _ q1, fun q hq => k _ _ _ (g1.trans (gr_new hq)) (rp_newT (g.go g1) hq r1) ⟨ds, rfl, q1⟩⟩)
theorem ev_tup {x1 : Nat} {ds : List D} (h : Evs T X es l (Eq ds)) (hl : ds.length ≤ sizeLine := by exact Nat.le_of_ble_eq_true rfl) : Ev T X es (.Tuple l x1 pos) (Eq (.tuple ds)) :=
  (ev_tupS h (fun ds' q => by rw [← q]; exact hl)).imp fun d ⟨ds', e, q⟩ => by rw [e, q]
theorem ev_lst {ds : List D} (h : Evs T X es l (Eq ds)) (hl : ds.length ≤ sizeLine := by exact Nat.le_of_ble_eq_true rfl) : Ev T X es (.List l pos) (Eq (.list ds)) := fun p H σ Q g o k =>
  wE_of (pe_lst pa_w) (h p H σ _ g o fun H1 vs ds' g1 r1 q1 => ⟨by rw [r1.length, ← q1]; exact hl, fun q hq => k _ _ _ (g1.trans (gr_new hq)) (rp_newL (g.go g1) hq r1) (by rw [q1])⟩)
theorem ev_lstS {B : List D → Prop} (h : Evs T X es l B) (hl : ∀ ds, B ds → ds.length ≤ sizeLine) : Ev T X es (.List l pos) (fun d => ∃ ds, d = .list ds ∧ B ds) := fun p H σ Q g o k =>
  wE_of (pe_lst pa_w) (h p H σ _ g o fun H1 vs ds g1 r1 q1 => ⟨by rw [r1.length]; exact hl _ q1, fun q hq => k _ _ _ (g1.trans (gr_new hq)) (rp_newL (g.go g1) hq r1) ⟨ds, rfl, q1⟩⟩)

/-! ### subscripts -/
theorem atI_of {α β : Type} {xs : List α} {ys : List β} {i : Int} {y : β} (hl : xs.length = ys.length) (h : atI ys i = some y) : ∃ (j : Nat) (x : α), xs[j]? = some x ∧ atI xs i = some x ∧ ys[j]? = some y := by
  unfold atI at h ⊢
  rw [hl]
  cases e : ixN ys.length i with
  | none =>
    rw [e] at h
    cases h
  | some j =>
    rw [e] at h
    have h2 : ys[j]? = some y := h
    obtain ⟨hj, _⟩ := List.getElem?_eq_some_iff.mp h2
    exact ⟨j, xs[j]'(by omega), List.getElem?_eq_getElem (by omega), List.getElem?_eq_getElem (by omega), h2⟩
theorem ev_ixT {ds : List D} {i : Int} {d : D} (ha : EvR T X es a (Eq (.tuple ds))) (hb : Ev T X es b (Eq (.int i))) (h : atI ds i = some d) (hs : PlainIx b := by exact fun _ _ => rfl) : Ev T X es (.Subscript a b pos) (Eq d) := fun p H σ Q g o k =>
  wE_of (pe_ix ix_tup pe_w pe_w hs) (ha p H σ _ g o fun H1 x dx g1 r1 q1 => hb p H1 σ _ (g.go g1) (o.go g g1) fun H2 y dy g2 r2 q2 => by
    subst q1 q2
    obtain ⟨a', xs, e, hq, r⟩ := (r1.go (g.go g1) g2).tup
    obtain ⟨j, v, e1, e2, e3⟩ := atI_of r.length h
    obtain ⟨v', e4, rv⟩ := r.get e3
    rw [e1] at e4
    cases e4
    exact ⟨a', xs, i, v, e, r2.int_v, hq, e2, k H2 _ _ (g1.trans g2) rv rfl⟩)
theorem ev_ixL {ds : List D} {i : Int} {d : D} (ha : EvR T X es a (Eq (.list ds))) (hb : Ev T X es b (Eq (.int i))) (h : atI ds i = some d) (hs : PlainIx b := by exact fun _ _ => rfl) : Ev T X es (.Subscript a b pos) (Eq d) := fun p H σ Q g o k =>
  wE_of (pe_ix ix_list pe_w pe_w hs) (ha p H σ _ g o fun H1 x dx g1 r1 q1 => hb p H1 σ _ (g.go g1) (o.go g g1) fun H2 y dy g2 r2 q2 => by
    subst q1 q2
    obtain ⟨a', xs, e, hq, r⟩ := (r1.go (g.go g1) g2).lst
    obtain ⟨j, v, e1, e2, e3⟩ := atI_of r.length h
    obtain ⟨v', e4, rv⟩ := r.get e3
    rw [e1] at e4
    cases e4
    exact ⟨a', xs, i, v, e, r2.int_v, .of hq, e2, k H2 _ _ (g1.trans g2) rv rfl⟩)

/-! ### slices of tuples -/
def cutD (xs : List D) (lo hi : Option Int) : List D := (xs.drop (HT.sIx xs.length 0 lo)).take (HT.sIx xs.length xs.length hi - HT.sIx xs.length 0 lo)
theorem rps_cut {K : PySem.W.Frag} {O : Addr → Prop} {H : Hp} {vs : List V} {ds : List D} (r : Rps K O H vs ds) (lo hi : Option Int) : Rps K O H (cutV vs lo hi) (cutD ds lo hi) := by
  unfold cutV cutD
  rw [r.length]
  exact (r.drop _).take _
theorem cut_whole {α : Type} {xs : List α} {lo hi : Option Int} (h : HT.sIx xs.length 0 lo = 0 ∧ HT.sIx xs.length xs.length hi = xs.length) : (xs.drop (HT.sIx xs.length 0 lo)).take (HT.sIx xs.length xs.length hi - HT.sIx xs.length 0 lo) = xs := by
  rw [h.1, h.2, Nat.sub_zero, List.drop_zero, List.take_length]
theorem slA_of {K : PySem.W.Frag} {p : Pr} {H : Hp} {v : V} {ds : List D} {lo hi : Option Int} {Q : VK} (g : Good T p H) (r : RpR K p H v (.tuple ds)) (k : ∀ H' v d, Gr0 p H H' → Rp K p.own H' v d → .tuple (cutD ds lo hi) = d → Q v H') (h1 : ∀ a xs, v = .ref a → SqT K H a xs → xs.length = ds.length → cutD ds lo hi = ds → Q (.ref a) H) : rSlA K v lo hi H Q := by
  obtain ⟨a, xs, e, hq, rs⟩ := r.tup
  refine ⟨a, xs, e, hq, fun hw => ?_, fun hn q hq => k _ _ _ (gr_new hq) (rp_newT g hq (rps_cut rs lo hi)) rfl⟩
  rw [rs.length] at hw
  exact h1 a xs e hq rs.length (by unfold cutD; exact cut_whole hw)
theorem sl_k {K : PySem.W.Frag} {p : Pr} {H : Hp} {v : V} {ds : List D} {lo hi : Option Int} {Q : VK} (g : Good T p H) (r : Rp K p.own H v (.tuple ds)) (k : ∀ H' v d, Gr0 p H H' → Rp K p.own H' v d → .tuple (cutD ds lo hi) = d → Q v H') : rSlA K v lo hi H Q :=
  slA_of g (.inl r) k fun a xs e _ _ ec => by
    subst e
    exact k H _ _ (.refl H) r (by rw [ec])
theorem cutD_from (ds : List D) (n : Nat) : cutD ds (some (n : Int)) none = ds.drop n := by
  unfold cutD
  rw [HT.sIx_none, HT.sIx_nat]
  by_cases h : n ≤ ds.length
  · rw [Nat.min_eq_left h]
    exact List.take_of_length_le (by rw [List.length_drop]; omega)
  · rw [Nat.min_eq_right (by omega), List.drop_of_length_le (Nat.le_refl _), List.drop_of_length_le (by omega), List.take_nil]
theorem cutD_to (ds : List D) (n : Nat) : cutD ds none (some (n : Int)) = ds.take n := by
  unfold cutD
  rw [HT.sIx_none, HT.sIx_nat, List.drop_zero, Nat.sub_zero]
  by_cases h : n ≤ ds.length
  · rw [Nat.min_eq_left h]
  · rw [Nat.min_eq_right (by omega), List.take_of_length_le (by omega), List.take_of_length_le (by omega)]
/-- t[n:] -/
theorem ev_from {ds : List D} {n : Nat} {j : Nat} {p1 p2 : Pos} (ha : Ev T X es a (Eq (.tuple ds))) : Ev T X es (.Subscript a (.Slice (some (.Constant (.int (n : Int)) j p1)) none none p2) pos) (Eq (.tuple (ds.drop n))) := fun p H σ Q g o k =>
  wE_of (pe_slice sl_tupA pe_w (po_some pe_int) po_none) (ha p H σ _ g o fun H1 x dx g1 r1 q1 => by
    subst q1
    exact ⟨_, rfl, sl_k (g.go g1) r1 fun H2 v d g2 r2 q2 => k H2 v d (g1.trans g2) r2 (by rw [← q2, cutD_from])⟩)
/-- t[:n] -/
theorem ev_upto {ds : List D} {n : Nat} {j : Nat} {p1 p2 : Pos} (ha : Ev T X es a (Eq (.tuple ds))) : Ev T X es (.Subscript a (.Slice none (some (.Constant (.int (n : Int)) j p1)) none p2) pos) (Eq (.tuple (ds.take n))) := fun p H σ Q g o k =>
  wE_of (pe_slice sl_tupA pe_w po_none (po_some pe_int)) (ha p H σ _ g o fun H1 x dx g1 r1 q1 => by
    subst q1
    exact ⟨_, rfl, sl_k (g.go g1) r1 fun H2 v d g2 r2 q2 => k H2 v d (g1.trans g2) r2 (by rw [← q2, cutD_to])⟩)
/-- t + u of tuples -/
theorem ev_catT {ds fs : List D} (ha : Ev T X es a (Eq (.tuple ds))) (hb : Ev T X es b (Eq (.tuple fs))) (hl : ds.length + fs.length ≤ sizeLine) : Ev T X es (.BinOp a .Add b pos) (Eq (.tuple (ds ++ fs))) := fun p H σ Q g o k =>
  wE_of (pe_op op_catA pe_w pe_w) (ha p H σ _ g o fun H1 x dx g1 r1 q1 => hb p H1 σ _ (g.go g1) (o.go g g1) fun H2 y dy g2 r2 q2 => by
    subst q1 q2
    have g12 := g1.trans g2
    have r1' := r1.mono g2.mono
    obtain ⟨a1, xs, e1, t1, s1⟩ := r1'.tup_v
    obtain ⟨a2, ys, e2, t2, s2⟩ := r2.tup_v
    subst e1 e2
    refine ⟨a1, a2, xs, ys, rfl, rfl, t1.sq, t2.sq, by rw [s1.length, s2.length]; exact hl, fun e => ?_, fun _ e => ?_, fun _ _ q hq => ?_⟩
    · subst e
      have : ds = [] := List.length_eq_zero_iff.mp s1.length.symm
      subst this
      exact k H2 _ _ g12 r2 rfl
    · subst e
      have : fs = [] := List.length_eq_zero_iff.mp s2.length.symm
      subst this
      exact k H2 _ _ g12 r1' (by rw [List.append_nil])
    · exact k _ _ _ (g12.trans (gr_new hq)) (rp_newT (g.go g12) hq (s1.append s2)) rfl)
/-- x + y of lists (both may be one's own) -/
theorem ev_catL {ds fs : List D} (ha : EvR T X es a (Eq (.list ds))) (hb : EvR T X es b (Eq (.list fs))) (hl : ds.length + fs.length ≤ sizeLine) : Ev T X es (.BinOp a .Add b pos) (Eq (.list (ds ++ fs))) := fun p H σ Q g o k =>
  wE_of (pe_op op_cat pe_w pe_w) (ha p H σ _ g o fun H1 x dx g1 r1 q1 => hb p H1 σ _ (g.go g1) (o.go g g1) fun H2 y dy g2 r2 q2 => by
    subst q1 q2
    have g12 := g1.trans g2
    obtain ⟨a1, xs, e1, t1, s1⟩ := (r1.go (g.go g1) g2).lst
    obtain ⟨a2, ys, e2, t2, s2⟩ := r2.lst
    subst e1 e2
    exact ⟨a1, a2, xs, ys, rfl, rfl, t1, t2, by rw [s1.length, s2.length]; exact hl, fun q hq => k _ _ _ (g12.trans (gr_new hq)) (rp_newL (g.go g12) hq (s1.append s2)) rfl⟩)
end
end DL
end
section
set_option Elab.async false
set_option linter.all false
set_option autoImplicit false
set_option maxRecDepth 100000
set_option maxHeartbeats 2000000
/-! Dicts, built-ins. -/
namespace DL
open PySem PySem.Spec L2
open PyProof.Rows hiding St

/-! ### dicts with keys of ints -/
def lkD (kvs : KD) (k : List Int) : Option Int := (kvs.find? fun q => decide (q.1 = k)).map (·.2)
def putD (kvs : KD) (k : List Int) (v : Int) : KD := if (kvs.any fun q => decide (q.1 = k)) = true then kvs.map (fun q => if q.1 = k then (q.1, v) else q) else kvs ++ [(k, v)]
theorem inl_inj {a b : List Int} : (a.map Sum.inl : List Key) = b.map Sum.inl ↔ a = b := by
  constructor
  · intro h
    induction a generalizing b with
    | nil =>
      cases b with
      | nil => rfl
      | cons => simp at h
    | cons x a ih =>
      cases b with
      | nil => simp at h
      | cons y b =>
        simp only [List.map_cons, List.cons.injEq, Sum.inl.injEq] at h
        rw [h.1, ih h.2]
  · rintro rfl
    rfl
theorem valV_enc (k : List Int) : ∀ kvs : KD, valV (encK kvs) (k.map Sum.inl) = (lkD kvs k).map V.int
  | [] => rfl
  | q :: r => by
    have ih := valV_enc k r
    show valV ((q.1.map Sum.inl, V.int q.2) :: encK r) (k.map Sum.inl) = (lkD (q :: r) k).map V.int
    by_cases h : q.1 = k
    · rw [valV_pos (show ((q.1.map Sum.inl, V.int q.2) : List Key × V).1 = k.map Sum.inl by rw [h])]
      simp [lkD, List.find?_cons, h]
    · rw [valV_neg (show ¬ ((q.1.map Sum.inl, V.int q.2) : List Key × V).1 = k.map Sum.inl from fun z => h (inl_inj.mp z)), ih]
      simp [lkD, List.find?_cons, h]
theorem any_enc (k : List Int) : ∀ kvs : KD, ((encK kvs).any fun q => decide (q.1 = k.map Sum.inl)) = kvs.any fun q => decide (q.1 = k)
  | [] => rfl
  | q :: r => by
    have e : decide ((q.1.map Sum.inl : List Key) = k.map Sum.inl) = decide (q.1 = k) := by simp only [inl_inj]
    show (decide ((q.1.map Sum.inl : List Key) = k.map Sum.inl) || (encK r).any _) = (decide (q.1 = k) || r.any _)
    rw [any_enc k r, e]
theorem encK_length (kvs : KD) : (encK kvs).length = kvs.length := by simp [encK]
theorem put_enc (kvs : KD) (k : List Int) (v : Int) : putK (encK kvs) (k.map Sum.inl) (V.int v) = encK (putD kvs k v) := by
  unfold putD putK
  rw [any_enc]
  by_cases h : (kvs.any fun q => decide (q.1 = k)) = true
  · rw [if_pos h]
    first
      | rw [if_pos h]
      | simp only [h]
    unfold encK
    rw [List.map_map, List.map_map]
    refine List.map_congr_left fun q _ => ?_
    show (if (q.1.map Sum.inl : List Key) = k.map Sum.inl then _ else _) = _
    by_cases e : q.1 = k
    · rw [if_pos (by rw [e])]
      simp [e]
    · rw [if_neg (fun z => e (inl_inj.mp z))]
      simp [e]
  · rw [if_neg h]
    first
      | rw [if_neg h]
      | simp only [h]
    unfold encK
    rw [List.map_append]
    rfl
theorem putD_length (kvs : KD) (k : List Int) (v : Int) : (putD kvs k v).length ≤ kvs.length + 1 := by
  unfold putD
  split
  · simp
  · simp
theorem kV_inl (k : List Int) : (k.map Sum.inl : List Key).map kV = k.map V.int := by
  rw [List.map_map]
  rfl
/-- a key's own tuple -/
theorem Rp.key {K : PySem.W.Frag} {O : Addr → Prop} {H : Hp} {v : V} {k : List Int} (h : Rp K O H v (.tuple (k.map .int))) (hk : k ≠ []) : ∃ b, v = .ref b ∧ H b = some (.tup ((k.map Sum.inl : List Key).map kV)) := by
  obtain ⟨a, xs, e, t, r⟩ := h.tup_v
  have ex := r.ints
  subst ex
  refine ⟨a, e, ?_⟩
  rw [kV_inl]
  exact t.at_ (by simpa using hk)
section
variable {T : Addr → Prop} {X : Cx} {es : List Ent} {e a b c : Expr} {l rest : List Expr} {pos : Pos} {S A B C : D → Prop} {n : Nat}
theorem ev_dget {kvs : KD} {k : List Int} {v : Int} (hr : Room n X.A) (ha : EvR T X es a (Eq (dicD kvs))) (hb : Ev T X es b (Eq (.tuple (k.map .int)))) (h : lkD kvs k = some v) (hk : k ≠ [] := by exact List.cons_ne_nil _ _) (hs : NoSl b := by exact fun _ _ => rfl) : Ev T X es (.Subscript a b pos) (Eq (.int v)) := fun p H σ Q g o kk =>
  wE_of (pe_dget (hu_of hr) pe_w pe_w hs) (ha p H σ _ g o fun H1 x dx g1 r1 q1 => hb p H1 σ _ (g.go g1) (o.go g g1) fun H2 y dy g2 r2 q2 => by
    subst q1 q2
    obtain ⟨d, e, hd⟩ := (r1.go (g.go g1) g2).dic
    obtain ⟨t, e2, ht⟩ := r2.key hk
    subst e e2
    refine ⟨d, .int v, rfl, ?_, kk H2 _ _ (g1.trans g2) (.int v) rfl⟩
    have q := DGet.t hd ht
    rw [valV_enc, h] at q
    exact q)
theorem cv_din {kvs : KD} {k : List Int} (hr : Room n X.A) (ha : Ev T X es a (Eq (.tuple (k.map .int)))) (hb : EvR T X es b (Eq (dicD kvs))) (hk : k ≠ [] := by exact List.cons_ne_nil _ _) : Cv T X es .In a b (Eq (.bool (lkD kvs k).isSome)) := fun p H σ Q g o kk pins s I =>
  (pc_din (hu_of hr) pe_w pe_w).run pins s σ H Q I (ha p H σ _ g o fun H1 x dx g1 r1 q1 => hb p H1 σ _ (g.go g1) (o.go g g1) fun H2 y dy g2 r2 q2 => by
    subst q1 q2
    obtain ⟨d, e, hd⟩ := r2.dic
    obtain ⟨t, e2, ht⟩ := (r1.mono g2.mono).key hk
    subst e e2
    refine ⟨d, (lkD kvs k).map V.int, rfl, ?_, ?_⟩
    · have q := DGet.t hd ht
      rw [valV_enc] at q
      exact q
    · rw [Option.isSome_map]
      exact kk H2 _ _ (g1.trans g2) (.bl _) rfl)
theorem ev_dgetD {kvs : KD} {k : List Int} {v : Int} {apos : Pos} (hr : Room n X.A) (ha : EvR T X es a (Eq (dicD kvs))) (hb : Ev T X es b (Eq (.tuple (k.map .int)))) (hc : Ev T X es c (Eq (.int v))) (hk : k ≠ [] := by exact List.cons_ne_nil _ _) (m : M2 X a "get" apos b c pos := by exact ⟨rfl, rfl, rfl, rfl⟩) :
    Ev T X es (.Call (.Attribute a "get" apos) [b, c] [] pos) (Eq (.int ((lkD kvs k).getD v))) := fun p H σ Q g o kk =>
  wE_of (pe_dget2 (hu_of hr) pe_w pe_w pe_w m) (ha p H σ _ g o fun H1 x dx g1 r1 q1 => by
    subst q1
    obtain ⟨d, e, hd⟩ := r1.dic
    refine ⟨d, e, .inr ⟨_, .inl hd⟩, hb p H1 σ _ (g.go g1) (o.go g g1) fun H2 y dy g2 r2 q2 => hc p H2 σ _ (g.go (g1.trans g2)) (o.go g (g1.trans g2)) fun H3 z dz g3 r3 q3 => ?_⟩
    subst q2 q3
    obtain ⟨t, e2, ht⟩ := (r2.mono g3.mono).key hk
    obtain ⟨d', e', hd'⟩ := (r1.go (g.go g1) (g2.trans g3)).dic
    rw [e] at e'
    cases e'
    subst e2
    refine ⟨(lkD kvs k).map V.int, ?_, ?_⟩
    · have q := DGet.t hd' ht
      rw [valV_enc] at q
      exact q
    · have hz := r3.int_v
      subst hz
      have e3 : ((lkD kvs k).map V.int).getD (.int v) = .int ((lkD kvs k).getD v) := by cases lkD kvs k <;> rfl
      rw [e3]
      exact kk H3 _ _ ((g1.trans g2).trans g3) (.int _) rfl)

/-! ### built-ins by name -/
theorem ev_cB1 {id : String} {x : Str} {p1 : Pos} {r : List V → Hp → VK → Prop} (hc : CallR X (.builtin id) r) (hm : X.mg x = none) (hv : bootBuiltins x = some (.builtin id)) (ha : EvR T X es a A)
    (h : ∀ (p : Pr) (H : Hp) (v : V) (d : D) (Q : VK), Good T p H → RpR X.K p H v d → A d → (∀ H' v d, Gr0 p H H' → Rp X.K p.own H' v d → S d → Q v H') → r [v] H Q)
    (hg : Gl X x := by rfl) (hn : x ≠ "__name__" := by decide) (hdb : (x == ("__debug__" : Str)) = false := by decide)
    (he : starEach [a] X.env = (false, eval a X.env) :: starEach [] X.env := by rfl) (hpl : (backTo pos (starEach [] X.env)).any (·.1) = false := by rfl) : Ev T X es (.Call (.Name x p1) [a] [] pos) S := fun p H σ Q g o k =>
  wE_of (pe_callB hc hg hm hv (pa_cons pe_w pa_nil he) hn hdb he hpl) (ha p H σ _ g o fun H1 v d g1 r1 q1 => h p H1 v d Q (g.go g1) r1 q1 fun H2 v d g2 r2 q2 => k H2 v d (g1.trans g2) r2 q2)
theorem ev_cT1 {id : String} {x : Str} {p1 : Pos} {r : List V → Hp → VK → Prop} (hc : CallR X (.type id) r) (hm : X.mg x = none) (hv : bootBuiltins x = some (.type id)) (ha : EvR T X es a A)
    (h : ∀ (p : Pr) (H : Hp) (v : V) (d : D) (Q : VK), Good T p H → RpR X.K p H v d → A d → (∀ H' v d, Gr0 p H H' → Rp X.K p.own H' v d → S d → Q v H') → r [v] H Q)
    (hg : Gl X x := by rfl) (hn : x ≠ "__name__" := by decide) (hdb : (x == ("__debug__" : Str)) = false := by decide)
    (he : starEach [a] X.env = (false, eval a X.env) :: starEach [] X.env := by rfl) (hpl : (backTo pos (starEach [] X.env)).any (·.1) = false := by rfl) : Ev T X es (.Call (.Name x p1) [a] [] pos) S := fun p H σ Q g o k =>
  wE_of (pe_callTy hc hg hm hv (pa_cons pe_w pa_nil he) hn hdb he hpl) (ha p H σ _ g o fun H1 v d g1 r1 q1 => h p H1 v d Q (g.go g1) r1 q1 fun H2 v d g2 r2 q2 => k H2 v d (g1.trans g2) r2 q2)
theorem ev_cB2 {id : String} {x : Str} {p1 : Pos} {r : List V → Hp → VK → Prop} (hc : CallR X (.builtin id) r) (hm : X.mg x = none) (hv : bootBuiltins x = some (.builtin id)) (ha : Ev T X es a A) (hb : Ev T X es b B)
    (h : ∀ (p : Pr) (H : Hp) (v w : V) (d f : D) (Q : VK), Good T p H → Rp X.K p.own H v d → Rp X.K p.own H w f → A d → B f → (∀ H' v d, Gr0 p H H' → Rp X.K p.own H' v d → S d → Q v H') → r [v, w] H Q)
    (hg : Gl X x := by rfl) (hn : x ≠ "__name__" := by decide) (hdb : (x == ("__debug__" : Str)) = false := by decide)
    (he : starEach [a, b] X.env = (false, eval a X.env) :: starEach [b] X.env := by rfl) (he2 : starEach [b] X.env = (false, eval b X.env) :: starEach [] X.env := by rfl) (hpl : (backTo pos (starEach [b] X.env)).any (·.1) = false := by rfl) : Ev T X es (.Call (.Name x p1) [a, b] [] pos) S := fun p H σ Q g o k =>
  wE_of (pe_callB hc hg hm hv (pa_cons pe_w (pa_cons pe_w pa_nil he2) he) hn hdb he hpl) (ha p H σ _ g o fun H1 v d g1 r1 q1 => hb p H1 σ _ (g.go g1) (o.go g g1) fun H2 w f g2 r2 q2 => h p H2 v w d f Q (g.go (g1.trans g2)) (r1.mono g2.mono) r2 q1 q2 fun H3 v d g3 r3 q3 => k H3 v d ((g1.trans g2).trans g3) r3 q3)
section
variable {p1 : Pos}
theorem ev_lenL {ds : List D} (hm : X.mg "len" = none) (ha : EvR T X es a (Eq (.list ds))) (hg : Gl X "len" := by rfl)
    (he : starEach [a] X.env = (false, eval a X.env) :: starEach [] X.env := by rfl) (hpl : (backTo pos (starEach [] X.env)).any (·.1) = false := by rfl) : Ev T X es (.Call (.Name "len" p1) [a] [] pos) (Eq (.int (ds.length : Int))) :=
  ev_cB1 call_len_seq hm PySem.boot_len ha (fun p H v d Q g r q k => by
    subst q
    obtain ⟨a, xs, e, hq, rs⟩ := r.lst
    subst e
    refine ⟨a, xs, rfl, .inl (.of hq), ?_⟩
    rw [rs.length]
    exact k H _ _ (.refl H) (.int _) rfl) hg (he := he) (hpl := hpl)
theorem ev_lenT {ds : List D} (hm : X.mg "len" = none) (ha : EvR T X es a (Eq (.tuple ds))) (hg : Gl X "len" := by rfl)
    (he : starEach [a] X.env = (false, eval a X.env) :: starEach [] X.env := by rfl) (hpl : (backTo pos (starEach [] X.env)).any (·.1) = false := by rfl) : Ev T X es (.Call (.Name "len" p1) [a] [] pos) (Eq (.int (ds.length : Int))) :=
  ev_cB1 call_len_seq hm PySem.boot_len ha (fun p H v d Q g r q k => by
    subst q
    obtain ⟨a, xs, e, hq, rs⟩ := r.tup
    subst e
    refine ⟨a, xs, rfl, .inr hq, ?_⟩
    rw [rs.length]
    exact k H _ _ (.refl H) (.int _) rfl) hg (he := he) (hpl := hpl)
theorem boot_max : bootBuiltins "max" = some (.builtin "max") := by decide +kernel
theorem boot_min : bootBuiltins "min" = some (.builtin "min") := by decide +kernel
theorem boot_sum : bootBuiltins "sum" = some (.builtin "sum") := by decide +kernel
theorem boot_tuple : bootBuiltins "tuple" = some (.type "tuple") := by decide +kernel
theorem boot_list : bootBuiltins "list" = some (.type "list") := by decide +kernel
theorem boot_int' : bootBuiltins "int" = some (.type "int") := by decide +kernel
theorem boot_bool' : bootBuiltins "bool" = some (.type "bool") := by decide +kernel
theorem boot_str' : bootBuiltins "str" = some (.type "str") := by decide +kernel
theorem boot_sorted : bootBuiltins "sorted" = some (.builtin "sorted") := by decide +kernel
theorem boot_isi : bootBuiltins "isinstance" = some (.builtin "isinstance") := by decide +kernel
theorem ev_max2S {A B : D → Prop} (hc : X.calm = true) (hm : X.mg "max" = none) (ha : Ev T X es a A) (hb : Ev T X es b B) (h : ∀ x y, A x → B y → ∃ i j, x = .int i ∧ y = .int j ∧ S (.int (max i j))) (hg : Gl X "max" := by rfl)
    (he : starEach [a, b] X.env = (false, eval a X.env) :: starEach [b] X.env := by rfl) (he2 : starEach [b] X.env = (false, eval b X.env) :: starEach [] X.env := by rfl) (hpl : (backTo pos (starEach [b] X.env)).any (·.1) = false := by rfl) : Ev T X es (.Call (.Name "max" p1) [a, b] [] pos) S :=
  ev_cB2 (call_max2 hc) hm boot_max ha hb (fun p H v w d f Q g r1 r2 q1 q2 k => by
    obtain ⟨i, j, rfl, rfl, hs⟩ := h _ _ q1 q2
    have e1 := r1.int_v
    have e2 := r2.int_v
    subst e1 e2
    refine ⟨i, j, rfl, k H _ _ (.refl H) (.int _) ?_⟩
    have e : (if j > i then j else i) = max i j := by
      by_cases h : j > i
      · rw [if_pos h, Int.max_eq_right (by omega)]
      · rw [if_neg h, Int.max_eq_left (by omega)]
    rw [e]
    exact hs) hg (he := he) (he2 := he2) (hpl := hpl)
theorem ev_max2 {i j : Int} (hc : X.calm = true) (hm : X.mg "max" = none) (ha : Ev T X es a (Eq (.int i))) (hb : Ev T X es b (Eq (.int j))) (hg : Gl X "max" := by rfl)
    (he : starEach [a, b] X.env = (false, eval a X.env) :: starEach [b] X.env := by rfl) (he2 : starEach [b] X.env = (false, eval b X.env) :: starEach [] X.env := by rfl) (hpl : (backTo pos (starEach [b] X.env)).any (·.1) = false := by rfl) : Ev T X es (.Call (.Name "max" p1) [a, b] [] pos) (Eq (.int (max i j))) :=
  ev_max2S hc hm ha hb (fun x y q1 q2 => ⟨i, j, q1.symm, q2.symm, rfl⟩) hg he he2 hpl
theorem ev_min2S {A B : D → Prop} (hc : X.calm = true) (hm : X.mg "min" = none) (ha : Ev T X es a A) (hb : Ev T X es b B) (h : ∀ x y, A x → B y → ∃ i j, x = .int i ∧ y = .int j ∧ S (.int (min i j))) (hg : Gl X "min" := by rfl)
    (he : starEach [a, b] X.env = (false, eval a X.env) :: starEach [b] X.env := by rfl) (he2 : starEach [b] X.env = (false, eval b X.env) :: starEach [] X.env := by rfl) (hpl : (backTo pos (starEach [b] X.env)).any (·.1) = false := by rfl) : Ev T X es (.Call (.Name "min" p1) [a, b] [] pos) S :=
  ev_cB2 (call_min2 hc) hm boot_min ha hb (fun p H v w d f Q g r1 r2 q1 q2 k => by
    obtain ⟨i, j, rfl, rfl, hs⟩ := h _ _ q1 q2
    have e1 := r1.int_v
    have e2 := r2.int_v
    subst e1 e2
    refine ⟨i, j, rfl, k H _ _ (.refl H) (.int _) ?_⟩
    have e : (if j < i then j else i) = min i j := by
      by_cases h : j < i
      · rw [if_pos h, Int.min_eq_right (by omega)]
      · rw [if_neg h, Int.min_eq_left (by omega)]
    rw [e]
    exact hs) hg (he := he) (he2 := he2) (hpl := hpl)
theorem ev_min2 {i j : Int} (hc : X.calm = true) (hm : X.mg "min" = none) (ha : Ev T X es a (Eq (.int i))) (hb : Ev T X es b (Eq (.int j))) (hg : Gl X "min" := by rfl)
    (he : starEach [a, b] X.env = (false, eval a X.env) :: starEach [b] X.env := by rfl) (he2 : starEach [b] X.env = (false, eval b X.env) :: starEach [] X.env := by rfl) (hpl : (backTo pos (starEach [b] X.env)).any (·.1) = false := by rfl) : Ev T X es (.Call (.Name "min" p1) [a, b] [] pos) (Eq (.int (min i j))) :=
  ev_min2S hc hm ha hb (fun x y q1 q2 => ⟨i, j, q1.symm, q2.symm, rfl⟩) hg he he2 hpl
/-- max of a list of ints -/
def maxL : List Int → Int
  | [] => 0
  | x :: xs => xs.foldl max x
theorem foldl_max_mem : ∀ (xs : List Int) (x : Int), xs.foldl max x ∈ x :: xs ∧ ∀ y ∈ x :: xs, y ≤ xs.foldl max x
  | [], x => ⟨by simp, by simp⟩
  | y :: xs, x => by
    obtain ⟨h1, h2⟩ := foldl_max_mem xs (max x y)
    show xs.foldl max (max x y) ∈ _ ∧ ∀ z ∈ x :: y :: xs, z ≤ xs.foldl max (max x y)
    constructor
    · rcases List.mem_cons.mp h1 with h | h
      · rw [h]
        rcases Int.le_total x y with q | q
        · rw [Int.max_eq_right q]; simp
        · rw [Int.max_eq_left q]; simp
      · exact List.mem_cons_of_mem _ (List.mem_cons_of_mem _ h)
    · intro z hz
      have hb := h2 (max x y) List.mem_cons_self
      rcases List.mem_cons.mp hz with rfl | hz
      · exact Int.le_trans (Int.le_max_left _ _) hb
      · rcases List.mem_cons.mp hz with rfl | hz
        · exact Int.le_trans (Int.le_max_right _ _) hb
        · exact h2 z (List.mem_cons_of_mem _ hz)
theorem maxL_mem {xs : List Int} (h : xs ≠ []) : maxL xs ∈ xs ∧ ∀ y ∈ xs, y ≤ maxL xs := by
  cases xs with
  | nil => exact absurd rfl h
  | cons x xs => exact foldl_max_mem xs x
theorem ev_maxL {ns : List Int} (hc : X.calm = true) (hm : X.mg "max" = none) (ha : EvR T X es a (Eq (.list (ns.map .int)))) (h0 : ns ≠ []) (hg : Gl X "max" := by rfl)
    (he : starEach [a] X.env = (false, eval a X.env) :: starEach [] X.env := by rfl) (hpl : (backTo pos (starEach [] X.env)).any (·.1) = false := by rfl) : Ev T X es (.Call (.Name "max" p1) [a] [] pos) (Eq (.int (maxL ns))) :=
  ev_cB1 (cr_max hc) hm boot_max ha (fun p H v d Q g r q k => by
    subst q
    obtain ⟨a, xs, e, hq, rs⟩ := r.lst
    have ex := rs.ints
    subst e ex
    refine ⟨a, ns, rfl, .of hq, List.length_pos_iff.mpr h0, fun m hm hy => k H _ _ (.refl H) (.int m) ?_⟩
    obtain ⟨h1, h2⟩ := maxL_mem h0
    rw [Int.le_antisymm (hy _ h1) (h2 m hm)]) hg (he := he) (hpl := hpl)
theorem ev_sumL {ns : List Int} (hc : X.calm = true) (hm : X.mg "sum" = none) (ha : EvR T X es a (Eq (.list (ns.map .int)))) (hg : Gl X "sum" := by rfl)
    (he : starEach [a] X.env = (false, eval a X.env) :: starEach [] X.env := by rfl) (hpl : (backTo pos (starEach [] X.env)).any (·.1) = false := by rfl) : Ev T X es (.Call (.Name "sum" p1) [a] [] pos) (Eq (.int ns.sum)) :=
  ev_cB1 (cr_sum hc) hm boot_sum ha (fun p H v d Q g r q k => by
    subst q
    obtain ⟨a, xs, e, hq, rs⟩ := r.lst
    have ex := rs.ints
    subst e ex
    exact ⟨a, ns, rfl, .of hq, k H _ _ (.refl H) (.int _) rfl⟩) hg (he := he) (hpl := hpl)
theorem ev_tupL {ds : List D} (hm : X.mg "tuple" = none) (ha : EvR T X es a (Eq (.list ds))) (hg : Gl X "tuple" := by rfl)
    (he : starEach [a] X.env = (false, eval a X.env) :: starEach [] X.env := by rfl) (hpl : (backTo pos (starEach [] X.env)).any (·.1) = false := by rfl) : Ev T X es (.Call (.Name "tuple" p1) [a] [] pos) (Eq (.tuple ds)) :=
  ev_cT1 call_tuple_of hm boot_tuple ha (fun p H v d Q g r q k => by
    subst q
    obtain ⟨a, xs, e, hq, rs⟩ := r.lst
    subst e
    exact ⟨a, xs, rfl, .inl ⟨.of hq, fun q hq => k _ _ _ (gr_new hq) (rp_newT g hq rs) rfl⟩⟩) hg (he := he) (hpl := hpl)
theorem ev_tupLS {B : List D → Prop} (hm : X.mg "tuple" = none) (ha : EvR T X es a fun d => ∃ ds, d = .list ds ∧ B ds) (hg : Gl X "tuple" := by rfl)
    (he : starEach [a] X.env = (false, eval a X.env) :: starEach [] X.env := by rfl) (hpl : (backTo pos (starEach [] X.env)).any (·.1) = false := by rfl) : Ev T X es (.Call (.Name "tuple" p1) [a] [] pos) (fun d => ∃ ds, d = .tuple ds ∧ B ds) :=
  ev_cT1 call_tuple_of hm boot_tuple ha (fun p H v d Q g r q k => by
    obtain ⟨ds, rfl, hb⟩ := q
    obtain ⟨a, xs, e, hq, rs⟩ := r.lst
    subst e
    exact ⟨a, xs, rfl, .inl ⟨.of hq, fun q hq => k _ _ _ (gr_new hq) (rp_newT g hq rs) ⟨ds, rfl, hb⟩⟩⟩) hg (he := he) (hpl := hpl)
theorem ev_listT {ds : List D} (hm : X.mg "list" = none) (ha : EvR T X es a (Eq (.tuple ds))) (hg : Gl X "list" := by rfl)
    (he : starEach [a] X.env = (false, eval a X.env) :: starEach [] X.env := by rfl) (hpl : (backTo pos (starEach [] X.env)).any (·.1) = false := by rfl) : Ev T X es (.Call (.Name "list" p1) [a] [] pos) (Eq (.list ds)) :=
  ev_cT1 call_list_of hm boot_list ha (fun p H v d Q g r q k => by
    subst q
    obtain ⟨a, xs, e, hq, rs⟩ := r.tup
    subst e
    exact ⟨a, xs, rfl, .inr hq, fun q hq => k _ _ _ (gr_new hq) (rp_newL g hq rs) rfl⟩) hg (he := he) (hpl := hpl)
theorem ev_intI {i : Int} (hm : X.mg "int" = none) (ha : Ev T X es a (Eq (.int i))) (hg : Gl X "int" := by rfl)
    (he : starEach [a] X.env = (false, eval a X.env) :: starEach [] X.env := by rfl) (hpl : (backTo pos (starEach [] X.env)).any (·.1) = false := by rfl) : Ev T X es (.Call (.Name "int" p1) [a] [] pos) (Eq (.int i)) :=
  ev_cT1 call_int1 hm boot_int' ha.r (fun p H v d Q g r q k => by
    subst q
    have e := r.int_v
    subst e
    exact .inl ⟨i, rfl, k H _ _ (.refl H) (.int _) rfl⟩) hg (he := he) (hpl := hpl)
theorem RpR.bl_v {K : PySem.W.Frag} {p : Pr} {H : Hp} {v : V} {i : Bool} (r : RpR K p H v (.bool i)) : v = .bl i := by
  rcases r with r | ⟨a, xs, ds', e1, e2, l, q, r⟩ | ⟨a, kvs, e1, e2, l, q⟩
  · exact r.bl_v
  · cases e2
  · cases e2
theorem ev_intB {i : Bool} (hm : X.mg "int" = none) (ha : Ev T X es a (Eq (.bool i))) (hg : Gl X "int" := by rfl)
    (he : starEach [a] X.env = (false, eval a X.env) :: starEach [] X.env := by rfl) (hpl : (backTo pos (starEach [] X.env)).any (·.1) = false := by rfl) : Ev T X es (.Call (.Name "int" p1) [a] [] pos) (Eq (.int (if i then 1 else 0))) :=
  ev_cT1 call_int1 hm boot_int' ha.r (fun p H v d Q g r q k => by
    subst q
    have e := r.bl_v
    subst e
    exact .inr ⟨i, rfl, k H _ _ (.refl H) (.int _) rfl⟩) hg (he := he) (hpl := hpl)
end

/-! ### isinstance -/
def tyD : D → String
  | .none => "NoneType"
  | .bool _ => "bool"
  | .int _ => "int"
  | .str _ => "str"
  | .list _ => "list"
  | .tuple _ => "tuple"
  | .dict _ => "dict"
theorem tyX_of {p : Pr} {H : Hp} {v : V} {d : D} (r : Rp X.K p.own H v d) : TyX X.K H v (.type (tyD d)) := by
  cases r with
  | non => exact .base .non
  | bl b => exact .base (.bl b)
  | int i => exact .base (.int i)
  | lst t _ => exact .base (.lst t.2)
  | tup t _ =>
    rcases t with ⟨_, t⟩ | ⟨_, t⟩
    · exact .base (.tup t)
    · rcases t with (t | ⟨_, t⟩) | ⟨o, its, n, hk, hc, _⟩
      · cases t
      · cases t
      · exact .kTuple hk hc
  | dic _ t e =>
    subst e
    exact .base (.dT t)
section
variable {p1 p2 : Pos}
theorem ev_isi {d : D} {n : String} {x : Str} {z : Bool} (hm : X.mg "isinstance" = none) (hx : X.mg x = none) (hv : bootBuiltins x = some (.type n)) (ha : Ev T X es a (Eq d)) (hz : kitB (tyD d) n = some z) (hg : Gl X "isinstance" := by rfl) (hgx : Gl X x := by rfl) (hn : x ≠ "__name__" := by decide) (hdx : (x == ("__debug__" : Str)) = false := by decide)
    (he : starEach [a, .Name x p2] X.env = (false, eval a X.env) :: starEach [.Name x p2] X.env := by rfl) (he2 : starEach [.Name x p2] X.env = (false, eval (.Name x p2) X.env) :: starEach [] X.env := by rfl) (hpl : (backTo pos (starEach [.Name x p2] X.env)).any (·.1) = false := by rfl) :
    Ev T X es (.Call (.Name "isinstance" p1) [a, .Name x p2] [] pos) (Eq (.bool z)) := fun p H σ Q g o k =>
  wE_of (pe_callB call_isi hg hm boot_isi (pa_cons pe_w (pa_cons (pe_bltn (v := .ty n) hgx hx hv rfl hn hdx) pa_nil he2) he) (he := he) (hpl := hpl)) (ha p H σ _ g o fun H1 v d' g1 r1 q1 => by
    subst q1
    exact ⟨v, .ty n, _, _, z, rfl, .ty n, tyX_of r1, kit_ty hz, k H1 _ _ g1 (.bl z) rfl⟩)
/-- isinstance(x, (S, T)) -/
theorem ev_isi2 {d : D} {n m : String} {x y : Str} {z z' : Bool} {x1 : Nat} {p3 p4 : Pos} (hm : X.mg "isinstance" = none) (hx : X.mg x = none) (hv : bootBuiltins x = some (.type n)) (hy : X.mg y = none) (hw : bootBuiltins y = some (.type m)) (ha : Ev T X es a (Eq d)) (hz : kitB (tyD d) n = some z) (hz' : kitB (tyD d) m = some z') (hg : Gl X "isinstance" := by rfl) (hgx : Gl X x := by rfl) (hgy : Gl X y := by rfl) (hn : x ≠ "__name__" := by decide) (hdx : (x == ("__debug__" : Str)) = false := by decide) (hny : y ≠ "__name__" := by decide) (hdy : (y == ("__debug__" : Str)) = false := by decide)
    (he : starEach [a, .Tuple [.Name x p2, .Name y p3] x1 p4] X.env = (false, eval a X.env) :: starEach [.Tuple [.Name x p2, .Name y p3] x1 p4] X.env := by rfl) (he2 : starEach [.Tuple [.Name x p2, .Name y p3] x1 p4] X.env = (false, eval (.Tuple [.Name x p2, .Name y p3] x1 p4) X.env) :: starEach [] X.env := by rfl)
    (he3 : starEach [.Name x p2, .Name y p3] X.env = (false, eval (.Name x p2) X.env) :: starEach [.Name y p3] X.env := by rfl) (he4 : starEach [.Name y p3] X.env = (false, eval (.Name y p3) X.env) :: starEach [] X.env := by rfl) (hpl : (backTo pos (starEach [.Tuple [.Name x p2, .Name y p3] x1 p4] X.env)).any (·.1) = false := by rfl) :
    Ev T X es (.Call (.Name "isinstance" p1) [a, .Tuple [.Name x p2, .Name y p3] x1 p4] [] pos) (Eq (.bool (z || z'))) := fun p H σ Q g o k =>
  wE_of (pe_callB call_isiT hg hm boot_isi (pa_cons pe_w (pa_cons (pe_tup (pa_cons (pe_bltn (v := .ty n) hgx hx hv rfl hn hdx) (pa_cons (pe_bltn (v := .ty m) hgy hy hw rfl hny hdy) pa_nil he4) he3)) pa_nil he2) he) (he := he) (hpl := hpl)) (ha p H σ _ g o fun H1 v d' g1 r1 q1 => by
    subst q1
    refine ⟨(by show 2 ≤ sizeLine; decide), fun q hq => ⟨v, q, _, _, _, z || z', rfl, upd_same, .cons (.ty n) (.cons (.ty m) .nil), tyX_of (r1.mono (gr_new (o := .tup [.ty n, .ty m]) hq).mono), ?_, k _ _ _ (g1.trans (gr_new hq)) (.bl _) rfl⟩⟩
    refine kitAny_cons (kit_ty hz) (fun e => kitAny_cons (kit_ty hz') (fun e2 => ?_) fun e2 => ?_) fun e => ?_
    · rw [e, e2]
      exact kitAny_nil
    · rw [e2, Bool.or_true]
    · rw [e] <;> rfl)
end
end
end DL
end
section
set_option Elab.async false
set_option linter.all false
set_option autoImplicit false
set_option maxRecDepth 100000
set_option maxHeartbeats 2000000
/-! Calls of defs, targets, walks, comprehensions. -/
namespace DL
open PySem PySem.Spec L2
open PyProof.Rows hiding St

/-! ### calls of defs -/
abbrev SpP := List Ent → (D → Prop) → Prop
def SpD (T : Addr → Prop) (K : PySem.W.Frag) (sp : SpP) : Sp := fun vs H Q _ => ∃ (p : Pr) (as : List Ent) (S : D → Prop), Good T p H ∧ EntsOk K p H vs as ∧ sp as S ∧ ∀ H' v d, Gr0 p H H' → Rp K p.own H' v d → S d → Q v H'
/-- a def that lets nothing out: its name, its parameters, its promise, its defaults -/
structure Fn (T : Addr → Prop) (P : Program) (w : World) (K : PySem.W.Frag) (mg : Str → Option Value) (base : Heap) (k : Nat) (x : Str) (sp : SpP) (das : List Ent) : Prop where
  ex : ∃ (f : Addr) (fd : FuncData) (ps : List Str) (ds : List Value) (dvs : List V), mg x = some (.ref f) ∧ PySem.W.keepIn K (.ref f) = true ∧ Binds K fd ps ds ∧ Vals dvs ds ∧ (∀ p H, Good T p H → EntsOk K p H dvs das) ∧ FnOk P w K mg base CX0 k f fd ps (SpD T K sp)
theorem Fn.mono {T : Addr → Prop} {P : Program} {w : World} {K : PySem.W.Frag} {mg : Str → Option Value} {base : Heap} {j k : Nat} {x : Str} {sp : SpP} {das : List Ent} (F : Fn T P w K mg base j x sp das) (h : j ≤ k) : Fn T P w K mg base k x sp das := by
  obtain ⟨f, fd, ps, ds, dvs, h1, h2, h3, h4, h5, h6⟩ := F.ex
  exact ⟨f, fd, ps, ds, dvs, h1, h2, h3, h4, h5, h6.mono h⟩
theorem EntsOk.append {K : PySem.W.Frag} {p : Pr} {H : Hp} : ∀ {vs ws : List V} {as bs : List Ent}, EntsOk K p H vs as → EntsOk K p H ws bs → EntsOk K p H (vs ++ ws) (as ++ bs)
  | _, _, _, _, .nil, s => s
  | _, _, _, _, .cons h r, s => .cons h (EntsOk.append r s)
theorem EntsOk.go {K : PySem.W.Frag} {T : Addr → Prop} {p : Pr} {H H' : Hp} (g : Good T p H) (h : Gr0 p H H') : ∀ {vs : List V} {as : List Ent}, EntsOk K p H vs as → EntsOk K p H' vs as
  | _, _, .nil => .nil
  | _, _, .cons e r => .cons (e.go g h) (EntsOk.go g h r)
section
variable {T : Addr → Prop} {X : Cx} {es : List Ent} {e a b c : Expr} {l rest : List Expr} {pos : Pos} {S A B C : D → Prop} {n : Nat}
theorem Ar.imp {A B : List Ent → Prop} (h : Ar T X es l A) (f : ∀ d, A d → B d) : Ar T X es l B := fun p H σ Q g o k => h p H σ Q g o fun H' v d g' r q => k H' v d g' r (f d q)
theorem ar_nil : Ar T X es [] (Eq []) := fun p H σ Q g o k => wA_of pa_nil (k H _ _ (.refl H) .nil rfl)
theorem ar_consS {A : D → Prop} {B : List Ent → Prop} (ha : Ev T X es e A) (hr : Ar T X es l B) (hs : starEach (e :: l) X.env = (false, eval e X.env) :: starEach l X.env := by rfl) : Ar T X es (e :: l) (fun as => ∃ d r, as = .dat d :: r ∧ A d ∧ B r) := fun p H σ Q g o k =>
  wA_of (pa_cons pe_w pa_w hs) (ha p H σ _ g o fun H1 v d g1 r1 q1 => hr p H1 σ _ (g.go g1) (o.go g g1) fun H2 vs as g2 r2 q2 => k H2 _ (.dat d :: as) (g1.trans g2) (.cons (show EntOk X.K p H2 (some v) (.dat d) from ⟨v, rfl, r1.mono g2.mono⟩) r2) ⟨d, as, rfl, q1, q2⟩)
theorem ar_cons {d : D} {as : List Ent} (ha : Ev T X es e (Eq d)) (hr : Ar T X es l (Eq as)) (hs : starEach (e :: l) X.env = (false, eval e X.env) :: starEach l X.env := by rfl) : Ar T X es (e :: l) (Eq (.dat d :: as)) :=
  (ar_consS ha hr hs).imp fun ds ⟨d, r, e, q1, q2⟩ => by rw [e, q1, q2]
/-- the draws' row handed on -/
theorem ar_row (i : Nat) {x : Str} {ns : List Int} {B : List Ent → Prop} {px : Pos} (hr : Ar T X es l B) (he : es[i]? = some (.row ns) := by rfl) (hN : X.N[i]? = some x := by rfl) (hv : Vis X.env.scope x := by first | exact Or.inl rfl | exact Or.inr (Or.inl rfl) | exact Or.inr (Or.inr rfl)) (hd : (x == ("__debug__" : Str)) = false := by decide)
    (hcd : (x == ("__classdict__" : Str)) = false := by decide) (hs : starEach (.Name x px :: l) X.env = (false, eval (.Name x px) X.env) :: starEach l X.env := by rfl) : Ar T X es (.Name x px :: l) (fun as => ∃ r, as = .row ns :: r ∧ B r) := fun p H σ Q g o k => by
  have q := o.at_ i _ he
  obtain ⟨v, ev, hq⟩ : ∃ v, σ[i]? = some (some v) ∧ EntOk X.K p H (some v) (.row ns) := by
    obtain ⟨r, y, s, e, h⟩ := id q
    exact ⟨_, getD_some e, by rw [← e]; exact q⟩
  exact wA_of (pa_cons (pv i hN hv hd hcd) pa_w hs) ⟨v, ev, hr p H σ _ g o fun H2 vs as g2 r2 q2 => k H2 _ _ g2 (.cons (hq.go g g2) r2) ⟨as, rfl, q2⟩⟩
theorem ev_call {k : Nat} {x : Str} {p1 : Pos} {sp : SpP} {das : List Ent} {A : List Ent → Prop} (F : Fn T X.prog X.w X.K X.mg X.base k x sp das) (hr : Room k X.A) (ha : Ar T X es (e :: l) A) (h : ∀ as, A as → sp (as ++ das) S)
    (hg : Gl X x := by rfl) (hdb : (x == ("__debug__" : Str)) = false := by decide) (he : starEach (e :: l) X.env = (false, eval e X.env) :: starEach l X.env := by rfl) (hpl : (backTo pos (starEach l X.env)).any (·.1) = false := by rfl) : Ev T X es (.Call (.Name x p1) (e :: l) [] pos) S := fun p H σ Q g o kk => by
  obtain ⟨f, fd, ps, ds, dvs, h1, h2, h3, h4, h5, h6⟩ := F.ex
  exact wE_of (pe_call h6 hr hg h1 h2 h3 h4 pass0 pa_w hdb he hpl) (ha p H σ _ g o fun H1 vs as g1 r1 q1 => ⟨p, as ++ das, S, g.go g1, r1.append (h5 p H1 (g.go g1)), h as q1, fun H2 v d g2 r2 q2 => kk H2 v d (g1.trans g2) r2 q2⟩)
theorem ev_callD {k : Nat} {x : Str} {p1 : Pos} {sp : SpP} {das as : List Ent} (F : Fn T X.prog X.w X.K X.mg X.base k x sp das) (hr : Room k X.A) (ha : Ar T X es (e :: l) (Eq as)) (h : sp (as ++ das) S)
    (hg : Gl X x := by rfl) (hdb : (x == ("__debug__" : Str)) = false := by decide) (he : starEach (e :: l) X.env = (false, eval e X.env) :: starEach l X.env := by rfl) (hpl : (backTo pos (starEach l X.env)).any (·.1) = false := by rfl) : Ev T X es (.Call (.Name x p1) (e :: l) [] pos) S :=
  ev_call F hr ha (fun as' q => by rw [← q]; exact h) hg hdb he hpl

/-! ### targets -/
/-- the target of x: from es to es'; the slots vs alone change -/
def Bd (T : Addr → Prop) (X : Cx) (vs : List Nat) (tg : Expr) (x : D) (es es' : List Ent) : Prop := ∀ (p : Pr) (H : Hp) (σ : St) (v : V) (Q : St → Hp → Prop), Good T p H → EnvOk X.K p H σ es → Rp X.K p.own H v x →
  (∀ σ', EnvOk X.K p H σ' es' → (∀ i, i ∉ vs → σ'[i]? = σ[i]?) → σ'.length = σ.length → Q σ' H) → wG X tg v σ H Q
theorem Owned.set {es : List Ent} {i j : Nat} {d : Ent} (hd : ¬ d.isOwn) (h : Owned (es.set i d) j) : Owned es j ∧ (j ≠ i ∨ es.length ≤ i) := by
  obtain ⟨e, q, o⟩ := h
  by_cases hij : i = j
  · subst hij
    by_cases hl : i < es.length
    · rw [List.getElem?_set_self hl] at q
      cases q
      exact absurd o hd
    · rw [List.getElem?_eq_none (by rw [List.length_set]; omega)] at q
      cases q
  · rw [List.getElem?_set_ne hij] at q
    exact ⟨⟨e, q, o⟩, .inl (fun z => hij z.symm)⟩
theorem EnvOk.set {K : PySem.W.Frag} {p : Pr} {H : Hp} {σ : St} {es : List Ent} {i : Nat} {v : V} {d : Ent} (o : EnvOk K p H σ es) (hd : ¬ d.isOwn) (h : EntOk K p H (some v) d) : EnvOk K p H (σ.set i (some v)) (es.set i d) := by
  refine ⟨by rw [List.length_set, List.length_set]; exact o.len, fun j e q => ?_, fun j k a ne h1 h2 e1 => ?_⟩
  · by_cases hij : i = j
    · subst hij
      have hl : i < es.length := by
        obtain ⟨hl, _⟩ := List.getElem?_eq_some_iff.mp q
        rw [List.length_set] at hl
        exact hl
      rw [List.getElem?_set_self hl] at q
      cases q
      rw [List.getElem?_set_self (by rw [o.len]; exact hl)]
      exact h
    · rw [List.getElem?_set_ne hij] at q ⊢
      exact o.at_ j e q
  · obtain ⟨o1, n1⟩ := h1.set hd
    obtain ⟨o2, n2⟩ := h2.set hd
    have key : ∀ m, Owned es m → m < es.length := fun m ⟨e, q, _⟩ => (List.getElem?_eq_some_iff.mp q).1
    have nj : i ≠ j := fun z => by
      rcases n1 with n | n
      · exact n z.symm
      · have := key j o1
        omega
    have nk : i ≠ k := fun z => by
      rcases n2 with n | n
      · exact n z.symm
      · have := key k o2
        omega
    rw [List.getElem?_set_ne nj] at e1
    rw [List.getElem?_set_ne nk]
    exact o.apart j k a ne o1 o2 e1
theorem bd_nm {vs : List Nat} {d : D} (i : Nat) {x : Str} (hN : X.N.Nodup) (hi : X.N[i]? = some x := by rfl) (hx : Loc X.env.scope x := by first | exact Or.inl rfl | exact Or.inr rfl) (hf : X.fn x = true ∨ X.env.scope.names.lookup x = some .local := by first | exact .inl rfl | exact .inr rfl) (hv : i ∈ vs := by decide) : Bd T X vs (.Name x pos) d es (es.set i (.dat d)) := fun p H σ v Q g o r k =>
  wG_of (pg_name hN hi hx hf) (k _ (o.set (fun z => z) ⟨v, rfl, r⟩) (fun j hj => List.getElem?_set_ne (fun z => hj (by rw [← z]; exact hv))) (List.length_set))
/-- several targets -/
inductive Bds (T : Addr → Prop) (X : Cx) (vs : List Nat) : List Expr → List D → List Ent → List Ent → Prop
  | nil {es : List Ent} : Bds T X vs [] [] es es
  | cons {t : Expr} {ts : List Expr} {d : D} {ds : List D} {es es1 es2 : List Ent} (hs : (assignEach (t :: ts) X.env).map (·.2) = assign t X.env :: (assignEach ts X.env).map (·.2)) : Bd T X vs t d es es1 → Bds T X vs ts ds es1 es2 → Bds T X vs (t :: ts) (d :: ds) es es2
theorem bds_run {vs : List Nat} {ts : List Expr} {ds : List D} {es es' : List Ent} (h : Bds T X vs ts ds es es') : ∃ t : TGs, PGs X ts t ∧ ∀ (p : Pr) (H : Hp) (σ : St) (xs : List V) (Q : St → Hp → Prop), Good T p H → EnvOk X.K p H σ es → Rps X.K p.own H xs ds →
    (∀ σ', EnvOk X.K p H σ' es' → (∀ i, i ∉ vs → σ'[i]? = σ[i]?) → σ'.length = σ.length → Q σ' H) → t xs σ H Q := by
  induction h with
  | nil =>
    refine ⟨gNil, pgs_nil, fun p H σ xs Q g o r k => ?_⟩
    cases r
    exact ⟨rfl, k σ o (fun _ _ => rfl) rfl⟩
  | cons hs h1 h2 ih =>
    obtain ⟨t, ht, hq⟩ := ih
    refine ⟨gCons (wG X _) t, pgs_cons pg_w ht hs, fun p H σ xs Q g o r k => ?_⟩
    cases r with
    | cons rv rr =>
      refine ⟨_, _, rfl, h1 p H σ _ _ g o rv fun σ1 o1 k1 l1 => hq p H σ1 _ Q g o1 rr fun σ2 o2 k2 l2 => ?_⟩
      exact k σ2 o2 (fun i hi => (k2 i hi).trans (k1 i hi)) (l2.trans l1)
theorem bd_tup {vs : List Nat} {ts : List Expr} {ds : List D} {k : Nat} {es' : List Ent} (hc : X.calm = true) (h : Bds T X vs ts ds es es') (hn : (assignEach ts X.env).length = ds.length := by rfl) (hst : (assignEach ts X.env).findIdx? (·.1) = none := by rfl) : Bd T X vs (.Tuple ts k pos) (.tuple ds) es es' := fun p H σ v Q g o r kk => by
  obtain ⟨t, ht, hq⟩ := bds_run h
  obtain ⟨a, xs, e, ta, rs⟩ := r.tup_v
  exact wG_of (pg_tup hc ht hn hst) ⟨a, xs, e, ta.sq, rs.length, hq p H σ xs Q g o rs kk⟩

/-! ### walks -/
/-- what a walk gives, wherever the data stand as they stood at its start -/
structure IsWk (K : PySem.W.Frag) (T : Addr → Prop) (p : Pr) (H : Hp) (J : It) (xs : List D) : Prop where
  at_ : ∀ (p' : Pr) (H' : Hp), Mono p.own H p'.own H' → Good T p' H' →
    (∀ i, i < xs.length → J.go i H') ∧ J.stop xs.length H' ∧ ∀ i v H2, i < xs.length → J.yld i H' v H2 → Gr0 p' H' H2 ∧ ∃ d, xs[i]? = some d ∧ Rp K p'.own H2 v d
def Wk (T : Addr → Prop) (X : Cx) (es : List Ent) (tg iter : Expr) (S : List D → Prop) : Prop := ∀ (p : Pr) (H : Hp) (σ : St) (R : It → Hp → Prop), Good T p H → EnvOk X.K p H σ es → (∀ J H1 xs, Gr0 p H H1 → S xs → IsWk X.K T p H1 J xs → R J H1) → wI X tg iter σ H R
theorem wk_tup {tg : Expr} {ds : List D} (hr : Ev T X es e (Eq (.tuple ds))) : Wk T X es tg e (Eq ds) := fun p H σ R g o k =>
  wI_of (pi_tup pe_w) (hr p H σ _ g o fun H1 v d g1 r1 q1 => by
    subst q1
    obtain ⟨a, xs, ea, ta, rs⟩ := r1.tup_v
    refine ⟨a, ea, ⟨xs, ta.sq⟩, k _ H1 ds g1 rfl ⟨fun p' H' m g' => ?_⟩⟩
    have ta' := ta.mono m
    have rs' := rs.mono m
    refine ⟨fun i hi => ⟨xs, xs[i]'(by rw [rs.length]; exact hi), ta'.sq, List.getElem?_eq_getElem _⟩, ⟨xs, ta'.sq, Nat.le_of_eq rs.length⟩, fun i v H2 hi y => ?_⟩
    obtain ⟨eH, y⟩ := y
    subst eH
    obtain ⟨d, e1, r⟩ := rs'.get' (y xs ta'.sq)
    exact ⟨.refl _, d, e1, r⟩)
theorem wk_lst {tg : Expr} {ds : List D} (hr : Ev T X es e (Eq (.list ds))) : Wk T X es tg e (Eq ds) := fun p H σ R g o k =>
  wI_of (pi_list pe_w) (hr p H σ _ g o fun H1 v d g1 r1 q1 => by
    subst q1
    obtain ⟨a, xs, ea, ta, rs⟩ := r1.lst_v
    refine ⟨a, ea, ⟨xs, ta.sq⟩, k _ H1 ds g1 rfl ⟨fun p' H' m g' => ?_⟩⟩
    have ta' := ta.mono m
    have rs' := rs.mono m
    refine ⟨fun i hi => ⟨xs, xs[i]'(by rw [rs.length]; exact hi), ta'.sq, List.getElem?_eq_getElem _⟩, ⟨xs, ta'.sq, Nat.le_of_eq rs.length⟩, fun i v H2 hi y => ?_⟩
    obtain ⟨eH, y⟩ := y
    subst eH
    obtain ⟨d, e1, r⟩ := rs'.get' (y xs ta'.sq)
    exact ⟨.refl _, d, e1, r⟩)
/-- range(n), range(a, b): the ints -/
def rngL (a : Int) (n : Nat) : List D := (List.range n).map fun (i : Nat) => .int (a + (i : Int))
theorem rngL_at {a : Int} {n i : Nat} (h : i < n) : (rngL a n)[i]? = some (.int (a + (i : Int))) := by
  unfold rngL
  rw [List.getElem?_map, List.getElem?_range h]
  rfl
theorem rngL_len {a : Int} {n : Nat} : (rngL a n).length = n := by simp [rngL]
theorem isWk_rng {K : PySem.W.Frag} {p : Pr} {H : Hp} {a : Int} {n : Nat} : IsWk K T p H (Itr a n) (rngL a n) := ⟨fun p' H' m g' => by
  rw [rngL_len]
  refine ⟨fun i hi => hi, Nat.le_refl _, fun i v H2 hi y => ?_⟩
  obtain ⟨e1, e2⟩ := y
  subst e1 e2
  exact ⟨.refl _, _, rngL_at hi, .int _⟩⟩
theorem wk_rng1 {tg : Expr} {i : Int} {p1 : Pos} (hm : X.mg "range" = none) (ha : Ev T X es a (Eq (.int i))) (h1 : -(2 ^ 62) ≤ i) (h2 : i < 2 ^ 62) (hg : Gl X "range" := by rfl) (he : starEach [a] X.env = (false, eval a X.env) :: starEach [] X.env := by rfl) (hs : starEach [a] X.env = [(false, eval a X.env)] := by rfl) : Wk T X es tg (.Call (.Name "range" p1) [a] [] pos) (Eq (rngL 0 i.toNat)) := fun p H σ R g o k =>
  wI_of (pi_range1 hg hm (pa_cons pe_w pa_nil he) hs) (ha p H σ _ g o fun H1 v d g1 r1 q1 => by
    subst q1
    exact ⟨i, by rw [r1.int_v], h1, h2, k _ H1 _ g1 rfl isWk_rng⟩)
theorem wk_rng2 {tg : Expr} {i j : Int} {p1 : Pos} (hm : X.mg "range" = none) (ha : Ev T X es a (Eq (.int i))) (hb : Ev T X es b (Eq (.int j))) (h : -(2 ^ 62) ≤ i ∧ i < 2 ^ 62 ∧ -(2 ^ 62) ≤ j ∧ j < 2 ^ 62) (hg : Gl X "range" := by rfl) (he : starEach [a, b] X.env = (false, eval a X.env) :: starEach [b] X.env := by rfl) (he2 : starEach [b] X.env = (false, eval b X.env) :: starEach [] X.env := by rfl)
    (hs : starEach [a, b] X.env = [(false, eval a X.env), (false, eval b X.env)] := by rfl) (hs2 : starEach [b] X.env = [(false, eval b X.env)] := by rfl) : Wk T X es tg (.Call (.Name "range" p1) [a, b] [] pos) (Eq (rngL i (j - i).toNat)) := fun p H σ R g o k =>
  wI_of (pi_range2 hg hm (pa_cons pe_w (pa_cons pe_w pa_nil he2) he) hs hs2) (ha p H σ _ g o fun H1 v d g1 r1 q1 => hb p H1 σ _ (g.go g1) (o.go g g1) fun H2 w f g2 r2 q2 => by
    subst q1 q2
    exact ⟨i, j, by rw [r1.int_v, r2.int_v], h, k _ H2 _ (g1.trans g2) rfl isWk_rng⟩)
end
end DL
end
section
set_option Elab.async false
set_option linter.all false
set_option autoImplicit false
set_option maxRecDepth 100000
set_option maxHeartbeats 2000000
/-! List comprehensions over plain data. -/
namespace DL
open PySem PySem.Spec L2
open PyProof.Rows hiding St

/-! ### a cell D made within -/
def Pr.plus (p : Pr) (D : Addr) : Pr := ⟨p.cal, fun b => p.loc b ∨ b = D, p.row⟩
section
variable {T : Addr → Prop} {K : PySem.W.Frag} {p : Pr} {H1 H : Hp} {D : Addr} {o : HO}
theorem under_at (hD : H1 D = none) (hg : Gr (fun b => b = D) p.row (upd H1 D o) H) {b : Addr} {x : HO} (e : H1 b = some x) : ∃ y, H b = some y ∧ Kept (p.row b) x y :=
  hg b x (by rw [upd_ne (ne_of_none e hD)]; exact e) (ne_of_none e hD)
theorem under_gr (hD : H1 D = none) (hg : Gr (fun b => b = D) p.row (upd H1 D o) H) : Gr0 p H1 H := fun b x e _ => under_at hD hg e
theorem Good.under {y : HO} (g : Good T p H1) (hD : H1 D = none) (hg : Gr (fun b => b = D) p.row (upd H1 D o) H) (hy : H D = some y) (ny : ∀ xs, y ≠ .tup xs := by intro _ z; cases z) : Good T (p.plus D) H where
  there := fun b hb => by
    have key : p.own b ∨ b = D := by
      rcases hb with h | (h | h) | h
      · exact .inl (.inl h)
      · exact .inl (.inr (.inl h))
      · exact .inr h
      · exact .inl (.inr (.inr h))
    rcases key with h | h
    · obtain ⟨x, e⟩ := g.there b h
      obtain ⟨z, e', _⟩ := under_at hD hg e
      exact ⟨z, e'⟩
    · exact ⟨y, by rw [h]; exact hy⟩
  tabs := fun t ht => tabG_kept (g.tabs t ht) fun x e => under_at hD hg e
  rl := fun b hb => by
    rcases hb with h | h
    · exact g.rl b h
    · intro z
      obtain ⟨x, e⟩ := g.there b (.inr (.inr z))
      rw [h, hD] at e
      cases e
  lc := fun b hb => by
    rcases hb with h | h
    · exact g.lc b h
    · intro z
      obtain ⟨x, e⟩ := g.there b (.inl z)
      rw [h, hD] at e
      cases e
  nt := fun b xs hb e => by
    have key : p.own b ∨ b = D := by
      rcases hb with h | (h | h) | h
      · exact .inl (.inl h)
      · exact .inl (.inr (.inl h))
      · exact .inr h
      · exact .inl (.inr (.inr h))
    rcases key with h | h
    · obtain ⟨x, ex⟩ := g.there b h
      obtain ⟨z, e', k⟩ := under_at hD hg ex
      rw [e] at e'
      cases e'
      rcases k with q | ⟨ps, qs, _, q, _⟩ | ⟨_, s, _, v⟩
      · exact g.nt b xs h (by rw [ex, q])
      · cases q
      · obtain ⟨i, j, k, q, _⟩ := v
        cases q
    · rw [h, hy] at e
      exact ny xs (Option.some.inj e)
theorem plus_mono (hD : H1 D = none) (hg : Gr (fun b => b = D) p.row (upd H1 D o) H) : Mono p.own H1 (p.plus D).own H := fun a x e n nt => by
  obtain ⟨y, e', k⟩ := under_at hD hg e
  have hne : a ≠ D := ne_of_none e hD
  have n' : ¬ (p.plus D).own a := by
    rintro (h | (h | h) | h)
    · exact n (.inl h)
    · exact n (.inr (.inl h))
    · exact hne h
    · exact n (.inr (.inr h))
  rcases k with rfl | ⟨ps, qs, rfl, _, _⟩ | ⟨r, _⟩
  · exact ⟨e', n'⟩
  · exact absurd rfl (nt ps)
  · exact absurd (.inr (.inr r)) n
theorem EnvOk.under {σ : St} {es : List Ent} (ok : EnvOk K p H1 σ es) (g : Good T p H1) (hD : H1 D = none) (hg : Gr (fun b => b = D) p.row (upd H1 D o) H) : EnvOk K (p.plus D) H σ es := by
  have m := plus_mono hD hg
  refine ⟨ok.len, fun i e q => ?_, ok.apart⟩
  have h := ok.at_ i e q
  cases e with
  | unk => trivial
  | dat d =>
    obtain ⟨x, e, r⟩ := h
    exact ⟨x, e, r.mono m⟩
  | lst ds =>
    obtain ⟨a, xs, e, l, q, r⟩ := h
    obtain ⟨y, e', k⟩ := under_at hD hg q
    rcases k with rfl | ⟨ps, qs, z, _, _⟩ | ⟨rw', _⟩
    · exact ⟨a, xs, e, .inl l, e', r.mono m⟩
    · cases z
    · exact absurd rw' (g.rl _ l)
  | dic kvs =>
    obtain ⟨a, e, l, q⟩ := h
    obtain ⟨y, e', k⟩ := under_at hD hg q
    rcases k with rfl | ⟨ps, qs, z, _, _⟩ | ⟨rw', _⟩
    · exact ⟨a, e, .inl l, e'⟩
    · cases z
    · exact absurd rw' (g.rl _ l)
  | row ns =>
    obtain ⟨r, x, s, e, l, q, rv, rp, hl⟩ := h
    obtain ⟨y, e', k⟩ := under_at hD hg q
    refine ⟨r, y, s, e, l, e', ?_, rp.mono m, hl⟩
    rcases k with rfl | ⟨ps, qs, rfl, _, _⟩ | ⟨_, s', v1, v2⟩
    · exact rv
    · exact absurd rfl (rv.ntbl ps)
    · cases v1.same rv
      exact v2
end

/-! ### the slots of a block's own names forgotten -/
def wipeE (es : List Ent) : List Nat → List Ent
  | [] => es
  | v :: vs => (wipeE es vs).set v .unk
theorem wipe_none {σ : St} {i : Nat} : ∀ {vs : List Nat}, i ∈ vs → (wipe σ vs)[i]?.getD none = none
  | [], h => by cases h
  | v :: vs, h => by
    unfold wipe
    by_cases hi : v = i
    · subst hi
      by_cases hv : v < (wipe σ vs).length
      · rw [List.getElem?_set_self hv]
        rfl
      · rw [List.getElem?_eq_none (by rw [List.length_set]; omega)]
        rfl
    · rw [List.getElem?_set_ne hi]
      rcases List.mem_cons.mp h with e | e
      · exact absurd e.symm hi
      · exact wipe_none e
theorem wipeE_length (es : List Ent) : ∀ vs : List Nat, (wipeE es vs).length = es.length
  | [] => rfl
  | v :: vs => by unfold wipeE; rw [List.length_set, wipeE_length es vs]
theorem wipeE_in {es : List Ent} {i : Nat} {e : Ent} : ∀ {vs : List Nat}, i ∈ vs → (wipeE es vs)[i]? = some e → e = .unk
  | [], h, _ => by cases h
  | v :: vs, h, q => by
    unfold wipeE at q
    by_cases hi : v = i
    · subst hi
      by_cases hv : v < (wipeE es vs).length
      · rw [List.getElem?_set_self hv] at q
        exact (Option.some.inj q).symm
      · rw [List.getElem?_eq_none (by rw [List.length_set]; omega)] at q
        cases q
    · rw [List.getElem?_set_ne hi] at q
      rcases List.mem_cons.mp h with e' | e'
      · exact absurd e'.symm hi
      · exact wipeE_in e' q
theorem wipeE_out {es : List Ent} {i : Nat} : ∀ {vs : List Nat}, i ∉ vs → (wipeE es vs)[i]? = es[i]?
  | [], _ => rfl
  | v :: vs, h => by
    unfold wipeE
    rw [List.getElem?_set_ne (fun z => h (by rw [z]; exact List.mem_cons_self))]
    exact wipeE_out fun z => h (List.mem_cons_of_mem _ z)
theorem EnvOk.wiped {K : PySem.W.Frag} {p : Pr} {H : Hp} {σ : St} {es : List Ent} (o : EnvOk K p H σ es) (vs : List Nat) : EnvOk K p H (wipe σ vs) (wipeE es vs) := by
  have ow : ∀ i, Owned (wipeE es vs) i → i ∉ vs ∧ Owned es i := fun i ⟨e, q, ho⟩ => by
    by_cases hi : i ∈ vs
    · rw [wipeE_in hi q] at ho
      cases ho
    · rw [wipeE_out hi] at q
      exact ⟨hi, e, q, ho⟩
  refine ⟨by rw [wipe_length, wipeE_length]; exact o.len, fun i e q => ?_, fun i j a ne h1 h2 e1 => ?_⟩
  · by_cases hi : i ∈ vs
    · rw [wipeE_in hi q]
      trivial
    · rw [wipeE_out hi] at q
      rw [wipe_out hi]
      exact o.at_ i e q
  · obtain ⟨n1, o1⟩ := ow i h1
    obtain ⟨n2, o2⟩ := ow j h2
    rw [wipe_out n1] at e1
    rw [wipe_out n2]
    exact o.apart i j a ne o1 o2 e1
theorem wipe_same {σ σ' : St} {vs : List Nat} (h : ∀ i, i ∉ vs → σ'[i]? = (wipe σ vs)[i]?) (hl : σ'.length = (wipe σ vs).length) : wipe σ' vs = wipe σ vs := by
  refine List.ext_getElem? fun i => ?_
  by_cases hi : i ∈ vs
  · have l1 : (wipe σ' vs).length = (wipe σ vs).length := by rw [wipe_length, hl]
    by_cases hn : i < (wipe σ vs).length
    · have e1 := wipe_none (σ := σ') hi
      have e2 := wipe_none (σ := σ) hi
      rw [List.getElem?_eq_getElem (by omega)] at e1 ⊢
      rw [List.getElem?_eq_getElem hn] at e2 ⊢
      have e1' : (wipe σ' vs)[i] = none := e1
      have e2' : (wipe σ vs)[i] = none := e2
      rw [e1', e2']
    · rw [List.getElem?_eq_none (by omega), List.getElem?_eq_none (by omega)]
  · rw [wipe_out hi, h i hi]

/-! ### tests of a clause -/
def wTs (X : Cx) (ifs : List Expr) : TT := fun σ H Q => ∀ (pins : List (Addr × Obj)) (s : Shared), Inv X pins σ H s →
    wpAny (model X.prog X.w) X.A (forIn ifs true fun c r => if r = true then do let ok ← isTrue c X.env (eval c X.env); pure (ForInStep.yield ok) else pure (ForInStep.yield r)) (TP X pins σ Q) X.xe s
theorem pts_w {X : Cx} {ifs : List Expr} : PTs X ifs (wTs X ifs) := ⟨fun pins s _ _ _ I h => h pins s I⟩
def Tvs (T : Addr → Prop) (X : Cx) (es : List Ent) (ifs : List Expr) (S : Bool → Prop) : Prop := ∀ (p : Pr) (H : Hp) (σ : St) (Q : Bool → Hp → Prop), Good T p H → EnvOk X.K p H σ es → (∀ H' b, Gr0 p H H' → S b → Q b H') → wTs X ifs σ H Q
theorem tvs_nil {T : Addr → Prop} {X : Cx} {es : List Ent} : Tvs T X es [] (Eq true) := fun p H σ Q g o k pins s I => pts_nil.run pins s σ H Q I (k H true (.refl H) rfl)
theorem tvs_one {T : Addr → Prop} {X : Cx} {es : List Ent} {c : Expr} {S : Bool → Prop} (h : Tv T X es c S) : Tvs T X es [c] S := fun p H σ Q g o k pins s I => (pts_one pt_w).run pins s σ H Q I (h p H σ Q g o k)

/-- what comes of a comprehension: each item kept or not, and what is made of it -/
inductive LcOut {α : Type} (C : α → Bool → Prop) (F : α → D → Prop) : List α → List D → Prop
  | nil : LcOut C F [] []
  | keep {x : α} {y : D} {xs : List α} {ys : List D} : C x true → F x y → LcOut C F xs ys → LcOut C F (x :: xs) (y :: ys)
  | skip {x : α} {xs : List α} {ys : List D} : C x false → LcOut C F xs ys → LcOut C F (x :: xs) ys
theorem LcOut.snoc_keep {α : Type} {C : α → Bool → Prop} {F : α → D → Prop} {x : α} {y : D} (hc : C x true) (hf : F x y) : ∀ {xs : List α} {ys : List D}, LcOut C F xs ys → LcOut C F (xs ++ [x]) (ys ++ [y])
  | _, _, .nil => .keep hc hf .nil
  | _, _, .keep a b r => .keep a b (r.snoc_keep hc hf)
  | _, _, .skip a r => .skip a (r.snoc_keep hc hf)
theorem LcOut.snoc_skip {α : Type} {C : α → Bool → Prop} {F : α → D → Prop} {x : α} (hc : C x false) : ∀ {xs : List α} {ys : List D}, LcOut C F xs ys → LcOut C F (xs ++ [x]) ys
  | _, _, .nil => .skip hc .nil
  | _, _, .keep a b r => .keep a b (r.snoc_skip hc)
  | _, _, .skip a r => .skip a (r.snoc_skip hc)
theorem LcOut.length {α : Type} {C : α → Bool → Prop} {F : α → D → Prop} : ∀ {xs : List α} {ys : List D}, LcOut C F xs ys → ys.length ≤ xs.length
  | _, _, .nil => Nat.le_refl _
  | _, _, .keep _ _ r => Nat.succ_le_succ r.length
  | _, _, .skip _ r => Nat.le_succ_of_le r.length
theorem LcOut.eq {α : Type} {c : α → Bool} {f : α → D} : ∀ {xs : List α} {ys : List D}, LcOut (fun x b => c x = b) (fun x y => f x = y) xs ys → ys = (xs.filter c).map f
  | _, _, .nil => rfl
  | _, _, .keep a b r => by
    rw [List.filter_cons_of_pos a, List.map_cons, b, r.eq]
  | _, _, .skip a r => by
    rw [List.filter_cons_of_neg (by rw [a]; exact Bool.false_ne_true), r.eq]
theorem take_snoc {α : Type} {l : List α} {i : Nat} {x : α} (h : l[i]? = some x) : l.take (i + 1) = l.take i ++ [x] := by
  rw [List.take_add_one, h]
  rfl

section
variable {T : Addr → Prop} {X : Cx} {es : List Ent} {elt tg iter : Expr} {ifs : List Expr} {scope : Scope} {pos : Pos} {own : List (Str × Nat)} {α : Type} {enc : α → D}
/-- the block of a comprehension -/
abbrev bX (X : Cx) (scope : Scope) (s : Shared) (H : Hp) (C : Addr) (cl : List (Str × Addr)) (fp : List Addr) : Cx := X.blk s H scope (compEnvC scope cl C X.env) fp
theorem cell_upd {p : Pr} {D : Addr} {H H4 : Hp} {o o' : HO} {H1 : Hp} (hg : Gr (fun b => b = D) p.row (upd H1 D o) H) (h4 : Gr0 (p.plus D) H H4) : Gr (fun b => b = D) p.row (upd H1 D o) (upd H4 D o') := fun b x e n => by
  obtain ⟨y, e1, k1⟩ := hg b x e n
  obtain ⟨z, e2, k2⟩ := h4 b y e1 (fun q => q)
  exact ⟨z, by rw [upd_ne n]; exact e2, k1.trans k2 fun q => q⟩
/-- the readings of a comprehension's parts, whatever the block -/
abbrev gB (X : Cx) (scope : Scope) (tg : Expr) : TG := fun v σ H Q => ∀ s H0 c cl fp, wG (bX X scope s H0 c cl fp) tg v σ H Q
abbrev tB' (X : Cx) (scope : Scope) (ifs : List Expr) : TT := fun σ H Q => ∀ s H0 c cl fp, wTs (bX X scope s H0 c cl fp) ifs σ H Q
abbrev eB (X : Cx) (scope : Scope) (elt : Expr) : TE := fun σ H Q => ∀ s H0 c cl fp, wE (bX X scope s H0 c cl fp) elt σ H Q
theorem pg_B (s : Shared) (H : Hp) (c : Addr) (cl : List (Str × Addr)) (fp : List Addr) : PG (bX X scope s H c cl fp) tg (gB X scope tg) := ⟨fun pins s' σ H' v u Q I r h => h s H c cl fp pins s' u I r⟩
theorem pt_B (s : Shared) (H : Hp) (c : Addr) (cl : List (Str × Addr)) (fp : List Addr) : PTs (bX X scope s H c cl fp) ifs (tB' X scope ifs) := ⟨fun pins s' σ H' Q I h => h s H c cl fp pins s' I⟩
theorem pe_B (s : Shared) (H : Hp) (c : Addr) (cl : List (Str × Addr)) (fp : List Addr) : PE (bX X scope s H c cl fp) elt (eB X scope elt) := ⟨fun pins s' σ H' Q I h => h s H c cl fp pins s' I⟩
theorem lc_read {C : α → Bool → Prop} {F : α → D → Prop} {A : List α → Prop} (hi : Wk T X es tg iter fun xs => ∃ L, xs = L.map enc ∧ A L) (hl : ∀ L, A L → L.length ≤ sizeLine)
    (hb : ∀ L, A L → ∀ x ∈ L, ∃ es', ∀ s H c cl fp, Bd T (bX X scope s H c cl fp) (own.map (·.2)) tg (enc x) (wipeE es (own.map (·.2))) es' ∧ Tvs T (bX X scope s H c cl fp) es' ifs (C x) ∧ (C x true → Ev T (bX X scope s H c cl fp) es' elt (F x)))
    (p : Pr) (H : Hp) (σ : St) (Q : VK) (g : Good T p H) (o : EnvOk X.K p H σ es) (k : ∀ H' v d, Gr0 p H H' → Rp X.K p.own H' v d → (∃ L ys, A L ∧ d = .list ys ∧ LcOut C F L ys) → Q v H') : tLc (wI X tg iter) (gB X scope tg) (tB' X scope ifs) (eB X scope elt) (own.map (·.2)) σ H Q :=
  (hi p H σ _ g o fun J H1 xs g1 hA W D hD => by
    obtain ⟨L, rfl, hAL⟩ := hA
    have G1 := g.go g1
    have O1 := o.go g g1
    refine ⟨fun i m H' => m = L.length - i ∧ i ≤ L.length ∧ ∃ acc ys, H' D = some (.lst acc) ∧ Gr (fun b => b = D) p.row (upd H1 D (.lst [])) H' ∧ Rps X.K (p.plus D).own H' acc ys ∧ LcOut C F (L.take i) ys, ⟨L.length, by simp, Nat.zero_le _, [], [], upd_same, .refl _, .nil, .nil⟩, ?_⟩
    rintro i m H' ⟨rfl, hi, acc, ys, hDa, hg, hr, hout⟩
    have G' := G1.under hD hg hDa
    have O' := O1.under G1 hD hg
    obtain ⟨w1, w2, w3⟩ := W.at_ (p.plus D) H' (plus_mono hD hg) G'
    rw [List.length_map] at w1 w2 w3
    by_cases hlt : i < L.length
    · refine .inr ⟨w1 i hlt, fun H2 => ∃ acc ys, H2 D = some (.lst acc) ∧ Gr (fun b => b = D) p.row (upd H1 D (.lst [])) H2 ∧ Rps X.K (p.plus D).own H2 acc ys ∧ LcOut C F (L.take (i + 1)) ys, fun H2 q => ⟨L.length - (i + 1), by omega, rfl, hlt, q⟩, fun v H2 y => ?_⟩
      obtain ⟨g2, d, ed, rd⟩ := w3 i v H2 hlt y
      rw [List.getElem?_map, List.getElem?_eq_getElem hlt] at ed
      cases ed
      have hx : L[i]? = some L[i] := List.getElem?_eq_getElem hlt
      obtain ⟨es', hbl⟩ := hb L hAL L[i] (List.getElem_mem hlt)
      intro s0 H0 c0 cl0 fp0
      have G2 := G'.go g2
      have O2 := (O'.go G' g2).wiped (own.map (·.2))
      refine (hbl s0 H0 c0 cl0 fp0).1 (p.plus D) H2 _ v _ G2 O2 rd fun σ2 O3 k3 l3 => ⟨wipe_same k3 l3, fun s1 H3 c1 cl1 fp1 => ?_⟩
      refine (hbl s1 H3 c1 cl1 fp1).2.1 (p.plus D) H2 σ2 _ G2 O3 fun H4 b g4 hb' => ?_
      have g24 := g2.trans g4
      cases b with
      | false =>
        refine iteF ⟨acc, ys, g24.own G' (.inr rfl) hDa (fun ps z => by cases z), ?_, hr.mono g24.mono, ?_⟩
        · exact Gr.trans hg g24 (fun _ _ _ z => absurd z (fun q => q)) (fun _ _ _ _ z => z)
        · rw [take_snoc hx]
          exact hout.snoc_skip hb'
      | true =>
        refine iteT fun s2 H5 c2 cl2 fp2 => ?_
        refine (hbl s2 H5 c2 cl2 fp2).2.2 hb' (p.plus D) H4 σ2 _ (G2.go g4) (O3.go G2 g4) fun H6 y6 d6 g6 r6 q6 => ?_
        have g26 := g24.trans g6
        have m6 : Mono (p.plus D).own H6 (p.plus D).own (upd H6 D (.lst (acc ++ [y6]))) := fun a x e n nt => ⟨by rw [upd_ne (fun z => n (.inr (.inl (.inr z))))]; exact e, n⟩
        refine ⟨acc, g26.own G' (.inr rfl) hDa (fun ps z => by cases z), ?_, acc ++ [y6], ys ++ [d6], upd_same, cell_upd hg g26, ?_, ?_⟩
        · have h1 := hr.length
          have h2 := hout.length
          have h3 := hl L hAL
          rw [List.length_take] at h2
          omega
        · exact ((hr.mono g26.mono).append (.cons r6 .nil)).mono m6
        · rw [take_snoc hx]
          exact hout.snoc_keep hb' q6
    · have e : i = L.length := by omega
      subst e
      rw [List.take_length] at hout
      have gE := under_gr hD hg
      refine .inl ⟨w2, k H' (.ref D) (.list ys) (g1.trans gE) (.lst ⟨G1.nown hD, hDa⟩ (hr.mono (.weak fun a z => ?_))) ⟨L, ys, hAL, rfl, hout⟩⟩
      rcases z with h | h | h
      · exact .inl h
      · exact .inr (.inl (.inl h))
      · exact .inr (.inr h))
theorem ev_lcS {C : α → Bool → Prop} {F : α → D → Prop} {A : List α → Prop} (hc : X.calm = true) (hN : X.N.Nodup) (ok : BlkOk X.N X.env.scope scope own) (hi : Wk T X es tg iter fun xs => ∃ L, xs = L.map enc ∧ A L) (hl : ∀ L, A L → L.length ≤ sizeLine)
    (hb : ∀ L, A L → ∀ x ∈ L, ∃ es', ∀ s H c cl fp, Bd T (bX X scope s H c cl fp) (own.map (·.2)) tg (enc x) (wipeE es (own.map (·.2))) es' ∧ Tvs T (bX X scope s H c cl fp) es' ifs (C x) ∧ (C x true → Ev T (bX X scope s H c cl fp) es' elt (F x)))
    (hs : ∀ x, foldedSetIterable iter X.env x = pure x := by intro _; rfl) : Ev T X es (.ListComp elt [⟨tg, iter, ifs, 0⟩] scope pos) (fun r => ∃ L ys, A L ∧ r = .list ys ∧ LcOut C F L ys) := fun p H σ Q g o k =>
  wE_of (pe_lc hc hN pi_w ok pg_B pt_B pe_B hs) (lc_read hi hl hb p H σ Q g o k)
/-- the plain case -/
theorem ev_lc {L : List α} {c : α → Bool} {f : α → D} (hc : X.calm = true) (hN : X.N.Nodup) (ok : BlkOk X.N X.env.scope scope own) (hi : Wk T X es tg iter (Eq (L.map enc))) (hl : L.length ≤ sizeLine)
    (hb : ∀ x ∈ L, ∃ es', ∀ s H c' cl fp, Bd T (bX X scope s H c' cl fp) (own.map (·.2)) tg (enc x) (wipeE es (own.map (·.2))) es' ∧ Tvs T (bX X scope s H c' cl fp) es' ifs (Eq (c x)) ∧ (c x = true → Ev T (bX X scope s H c' cl fp) es' elt (Eq (f x))))
    (hs : ∀ x, foldedSetIterable iter X.env x = pure x := by intro _; rfl) : Ev T X es (.ListComp elt [⟨tg, iter, ifs, 0⟩] scope pos) (Eq (.list ((L.filter c).map f))) :=
  (ev_lcS (A := fun M => M = L) (C := fun x b => c x = b) (F := fun x y => f x = y) hc hN ok (fun p H σ R g o k => hi p H σ R g o fun J H1 xs g1 e W => k J H1 xs g1 ⟨L, e.symm, rfl⟩ W) (fun M e => by rw [e]; exact hl) (fun M e x hx => by
    rw [e] at hx
    exact hb x hx) hs).imp fun d ⟨M, ys, e1, e2, h⟩ => by
      subst e1 e2
      rw [h.eq]
end
end DL
end
section
set_option Elab.async false
set_option linter.all false
set_option autoImplicit false
set_option maxRecDepth 100000
set_option maxHeartbeats 2000000
/-! Statements over plain data. -/
namespace DL
open PySem PySem.Spec L2
open PyProof.Rows hiding St

structure Step (T : Addr → Prop) (p : Pr) (H : Hp) (p' : Pr) (H' : Hp) : Prop where
  gr : Gr p.loc p.row H H'
  cal : p'.cal = p.cal
  row : ∀ b, p.row b → p'.row b
  locb : ∀ b x, H b = some x → p'.loc b → p.loc b
  rowb : ∀ b x, H b = some x → p'.row b → p.row b ∨ p.loc b
  good : Good T p' H'
section
variable {T : Addr → Prop} {K : PySem.W.Frag} {p p' p'' : Pr} {H H' H'' : Hp}
theorem Step.refl (g : Good T p H) : Step T p H p H := ⟨.refl H, rfl, fun _ h => h, fun _ _ _ h => h, fun _ _ _ h => .inl h, g⟩
theorem Step.of_gr (g : Good T p H) (h : Gr0 p H H') : Step T p H p H' := ⟨fun b x e _ => h b x e (fun z => z), rfl, fun _ h => h, fun _ _ _ h => h, fun _ _ _ h => .inl h, g.go h⟩
theorem Step.trans (a : Step T p H p' H') (b : Step T p' H' p'' H'') : Step T p H p'' H'' where
  gr := Gr.trans a.gr b.gr a.locb fun c x e n h => by
    rcases a.rowb c x e h with q | q
    · exact q
    · exact absurd q n
  cal := b.cal.trans a.cal
  row := fun c h => b.row c (a.row c h)
  locb := fun c x e h => by
    by_cases n : p.loc c
    · exact n
    · obtain ⟨y, e', _⟩ := a.gr c x e n
      exact absurd (a.locb c x e (b.locb c y e' h)) n
  rowb := fun c x e h => by
    by_cases n : p.loc c
    · exact .inr n
    · obtain ⟨y, e', _⟩ := a.gr c x e n
      rcases b.rowb c y e' h with q | q
      · exact a.rowb c x e q
      · exact absurd (a.locb c x e q) n
  good := b.good
theorem Step.mono (a : Step T p H p' H') : Mono p.own H p'.own H' := fun c x e n nt => by
  have nl : ¬ p.loc c := fun z => n (.inr (.inl z))
  obtain ⟨y, e', k⟩ := a.gr c x e nl
  have n' : ¬ p'.own c := by
    rintro (h | h | h)
    · rw [a.cal] at h
      exact n (.inl h)
    · exact nl (a.locb c x e h)
    · rcases a.rowb c x e h with q | q
      · exact n (.inr (.inr q))
      · exact nl q
  rcases k with rfl | ⟨ps, qs, rfl, _, _⟩ | ⟨r, _⟩
  · exact ⟨e', n'⟩
  · exact absurd rfl (nt ps)
  · exact absurd (.inr (.inr r)) n
theorem Step.out (a : Step T p H p' H') : ∀ b, p.out b → p'.out b := fun b h => by
  rcases h with h | h
  · exact .inl (by rw [a.cal]; exact h)
  · exact .inr (a.row b h)
end

/-- the ends of a block -/
structure Po where
  nx : List Ent → Prop := fun _ => False
  rt : D → Prop := fun _ => False
  bk : List Ent → Prop := fun _ => False
  ct : List Ent → Prop := fun _ => False
structure Fin (T : Addr → Prop) (K : PySem.W.Frag) (P : Po) (p : Pr) (H : Hp) (D : Ends) : Prop where
  nx : ∀ es' p' H' σ', Step T p H p' H' → P.nx es' → EnvOk K p' H' σ' es' → D.nx σ' H'
  rt : ∀ d v p' H', Step T p H p' H' → P.rt d → Rp K p'.out H' v d → D.rt v H'
  bk : ∀ es' p' H' σ', Step T p H p' H' → P.bk es' → EnvOk K p' H' σ' es' → D.bk σ' H'
  ct : ∀ es' p' H' σ', Step T p H p' H' → P.ct es' → EnvOk K p' H' σ' es' → D.ct σ' H'
theorem Fin.go {T : Addr → Prop} {K : PySem.W.Frag} {P : Po} {p p' : Pr} {H H' : Hp} {D : Ends} (f : Fin T K P p H D) (s : Step T p H p' H') : Fin T K P p' H' D :=
  ⟨fun es' q G σ' t => f.nx es' q G σ' (s.trans t), fun d v q G t => f.rt d v q G (s.trans t), fun es' q G σ' t => f.bk es' q G σ' (s.trans t), fun es' q G σ' t => f.ct es' q G σ' (s.trans t)⟩
def Ex (T : Addr → Prop) (X : Cx) (es : List Ent) (sts : List Stmt) (P : Po) : Prop := ∀ (p : Pr) (H : Hp) (σ : St) (D : Ends), Good T p H → EnvOk X.K p H σ es → Fin T X.K P p H D → wS X sts D σ H
def Ex1 (T : Addr → Prop) (X : Cx) (es : List Ent) (st : Stmt) (P : Po) : Prop := ∀ (p : Pr) (H : Hp) (σ : St) (D : Ends), Good T p H → EnvOk X.K p H σ es → Fin T X.K P p H D → wS1 X st D σ H
section
variable {T : Addr → Prop} {X : Cx} {es : List Ent} {e a b c : Expr} {l : List Expr} {rest : List Stmt} {pos : Pos} {S A B C : D → Prop} {P : Po} {st : Stmt}
theorem Ex.imp {P' : Po} (h : Ex T X es rest P) (h1 : ∀ x, P.nx x → P'.nx x) (h2 : ∀ x, P.rt x → P'.rt x) (h3 : ∀ x, P.bk x → P'.bk x) (h4 : ∀ x, P.ct x → P'.ct x) : Ex T X es rest P' := fun p H σ D g o f =>
  h p H σ D g o ⟨fun es' q G σ' t z => f.nx es' q G σ' t (h1 _ z), fun d v q G t z => f.rt d v q G t (h2 _ z), fun es' q G σ' t z => f.bk es' q G σ' t (h3 _ z), fun es' q G σ' t z => f.ct es' q G σ' t (h4 _ z)⟩
theorem ex_nil (h : P.nx es) : Ex T X es [] P := fun p H σ D g o f => wS_of pss_nil (f.nx es p H σ (.refl g) h o)
/-- a statement, then the rest -/
theorem ex_cons (h1 : Ex1 T X es st { P with nx := fun es' => Ex T X es' rest P }) : Ex T X es (st :: rest) P := fun p H σ D g o f =>
  wS_of (pss_cons ps_w pss_w) (h1 p H σ { D with nx := wS X rest D } g o ⟨fun es' p' H' σ' s hx o' => hx p' H' σ' D s.good o' (f.go s), f.rt, f.bk, f.ct⟩)
theorem ex_one (h1 : Ex1 T X es st P) : Ex T X es [st] P := fun p H σ D g o f => wS_of (pss_one ps_w) (h1 p H σ D g o f)
theorem ex_never (h : False) : Ex T X es rest P := h.elim

/-! ### what a name may be given: a datum, or a cell that was just made -/
structure StepN (T : Addr → Prop) (p : Pr) (H : Hp) (p' : Pr) (H' : Hp) : Prop where
  gr : Gr0 p H H'
  st : Step T p H p' H'
  mor : ∀ b, p.loc b → p'.loc b
  rw_ : p'.row = p.row
theorem StepN.of_gr {p : Pr} {H H' : Hp} (g : Good T p H) (h : Gr0 p H H') : StepN T p H p H' := ⟨h, .of_gr g h, fun _ h => h, rfl⟩
theorem StepN.trans {p p' p'' : Pr} {H H' H'' : Hp} (a : StepN T p H p' H') (b : StepN T p' H' p'' H'') : StepN T p H p'' H'' :=
  ⟨Gr.trans a.gr b.gr (fun _ _ _ z => z) (fun _ _ _ _ z => by rw [a.rw_] at z; exact z), a.st.trans b.st, fun c h => b.mor c (a.mor c h), b.rw_.trans a.rw_⟩
theorem EntOk.goN {K : PySem.W.Frag} {p p' : Pr} {H H' : Hp} {v : Option V} {e : Ent} (g : Good T p H) (h : StepN T p H p' H') (o : EntOk K p H v e) : EntOk K p' H' v e := by
  have m := h.st.mono
  cases e with
  | unk => trivial
  | dat d =>
    obtain ⟨x, e, r⟩ := o
    exact ⟨x, e, r.mono m⟩
  | lst ds =>
    obtain ⟨a, xs, e, l, q, r⟩ := o
    exact ⟨a, xs, e, h.mor _ l, h.gr.own g l q (fun ps z => by cases z), r.mono m⟩
  | dic kvs =>
    obtain ⟨a, e, l, q⟩ := o
    exact ⟨a, e, h.mor _ l, h.gr.own g l q (fun ps z => by cases z)⟩
  | row ns =>
    obtain ⟨r, x, s, e, l, q, rv, rp, hl⟩ := o
    obtain ⟨y, e', k⟩ := h.gr r x q (fun z => z)
    refine ⟨r, y, s, e, by rw [h.rw_]; exact l, e', ?_, rp.mono m, hl⟩
    rcases k with rfl | ⟨ps, qs, rfl, _, _⟩ | ⟨_, s', v1, v2⟩
    · exact rv
    · exact absurd rfl (rv.ntbl ps)
    · cases v1.same rv
      exact v2
theorem EnvOk.goN {K : PySem.W.Frag} {p p' : Pr} {H H' : Hp} {σ : St} (g : Good T p H) (h : StepN T p H p' H') (o : EnvOk K p H σ es) : EnvOk K p' H' σ es :=
  ⟨o.len, fun i e q => (o.at_ i e q).goN g h, o.apart⟩
def EvN (T : Addr → Prop) (X : Cx) (es : List Ent) (e : Expr) (f : Ent) : Prop := ∀ (p : Pr) (H : Hp) (σ : St) (Q : VK), Good T p H → EnvOk X.K p H σ es →
  (∀ p' H' v, StepN T p H p' H' → EntOk X.K p' H' (some v) f → (f.isOwn → ∃ a, v = .ref a ∧ H a = none) → Q v H') → wE X e σ H Q
theorem evn_d {d : D} (h : Ev T X es e (Eq d)) : EvN T X es e (.dat d) := fun p H σ Q g o k => h p H σ Q g o fun H' v d' g' r q => by
  subst q
  exact k p H' v (.of_gr g g') ⟨v, rfl, r⟩ (fun z => z.elim)
theorem Ent.own_ne {K : PySem.W.Frag} {p : Pr} {H : Hp} {v : Option V} {f : Ent} (o : EntOk K p H v f) (h : f.isOwn) : ∃ a x, v = some (.ref a) ∧ H a = some x := by
  cases f with
  | lst ds =>
    obtain ⟨a, xs, e, _, q, _⟩ := o
    exact ⟨a, _, e, q⟩
  | dic kvs =>
    obtain ⟨a, e, _, q⟩ := o
    exact ⟨a, _, e, q⟩
  | _ => exact h.elim
theorem EnvOk.setN {K : PySem.W.Frag} {p p' : Pr} {H H' : Hp} {σ : St} {i : Nat} {v : V} {f : Ent} (g : Good T p H) (o : EnvOk K p H σ es) (s : StepN T p H p' H') (h : EntOk K p' H' (some v) f) (fr : f.isOwn → ∃ a, v = .ref a ∧ H a = none) : EnvOk K p' H' (σ.set i (some v)) (es.set i f) := by
  have o' := o.goN g s
  by_cases hf : f.isOwn
  · obtain ⟨a, ev, ha⟩ := fr hf
    subst ev
    refine ⟨by rw [List.length_set, List.length_set]; exact o.len, fun j e q => ?_, fun j k b ne h1 h2 e1 e2 => ?_⟩
    · by_cases hij : i = j
      · subst hij
        have hl : i < es.length := by
          obtain ⟨hl, _⟩ := List.getElem?_eq_some_iff.mp q
          rw [List.length_set] at hl
          exact hl
        rw [List.getElem?_set_self hl] at q
        cases q
        rw [List.getElem?_set_self (by rw [o.len]; exact hl)]
        exact h
      · rw [List.getElem?_set_ne hij] at q ⊢
        exact o'.at_ j e q
    · -- a slot of one's own other than i holds what stood at the start
      have old : ∀ m c, i ≠ m → Owned (es.set i f) m → σ[m]? = some (some (.ref c)) → c ≠ a := fun m c hm hw hc z => by
        obtain ⟨e, q, ho⟩ := hw
        rw [List.getElem?_set_ne hm] at q
        obtain ⟨b, x, e3, e4⟩ := Ent.own_ne (o.at_ m e q) ho
        rw [hc] at e3
        have e5 : V.ref c = V.ref b := Option.some.inj e3
        cases e5
        rw [z, ha] at e4
        cases e4
      by_cases hj : i = j
      · subst hj
        have hk : i ≠ k := ne
        rw [List.getElem?_set_ne hk] at e2
        obtain ⟨e, q, ho⟩ := h1
        have hl : i < (es.set i f).length := (List.getElem?_eq_some_iff.mp q).1
        rw [List.length_set] at hl
        rw [List.getElem?_set_self (by rw [o.len]; exact hl)] at e1
        have e5 : some (V.ref a) = some (V.ref b) := Option.some.inj e1
        cases e5
        exact old k a hk h2 e2 rfl
      · rw [List.getElem?_set_ne hj] at e1
        by_cases hk : i = k
        · subst hk
          obtain ⟨e, q, ho⟩ := h2
          have hl : i < (es.set i f).length := (List.getElem?_eq_some_iff.mp q).1
          rw [List.length_set] at hl
          rw [List.getElem?_set_self (by rw [o.len]; exact hl)] at e2
          have e5 : some (V.ref a) = some (V.ref b) := Option.some.inj e2
          cases e5
          exact old j a hj h1 e1 rfl
        · rw [List.getElem?_set_ne hk] at e2
          obtain ⟨e, q, ho⟩ := h1
          rw [List.getElem?_set_ne hj] at q
          obtain ⟨e', q', ho'⟩ := h2
          rw [List.getElem?_set_ne hk] at q'
          exact o.apart j k b ne ⟨e, q, ho⟩ ⟨e', q', ho'⟩ e1 e2
  · exact o'.set hf h
/-- a new cell of one's own -/
theorem stepN_new {p : Pr} {H : Hp} {q : Addr} {x : HO} (g : Good T p H) (hq : H q = none) (nx : ∀ xs, x ≠ .tup xs := by intro _ z; cases z) : StepN T p H (p.plus q) (upd H q x) := by
  have hg : Gr (fun b => b = q) p.row (upd H q x) (upd H q x) := .refl _
  refine ⟨gr_new hq, ⟨fun b y e n => ⟨y, by rw [upd_ne (ne_of_none e hq)]; exact e, .refl⟩, rfl, fun _ h => h, fun b y e h => ?_, fun _ _ _ h => .inl h, g.under hq hg upd_same nx⟩, fun b h => .inl h, rfl⟩
  rcases h with h | h
  · exact h
  · rw [h, hq] at e
    cases e
theorem evn_lst0 : EvN T X es (.List [] pos) (.lst []) := fun p H σ Q g o k =>
  wE_of (pe_lst pa_nil) ⟨Nat.zero_le _, fun q hq => k (p.plus q) _ _ (stepN_new g hq) ⟨q, [], rfl, .inr rfl, upd_same, .nil⟩ fun _ => ⟨q, rfl, hq⟩⟩
theorem evn_dic0 : EvN T X es (.Dict [] [] pos) (.dic []) := fun p H σ Q g o k =>
  wE_of pe_dnewT fun q hq => k (p.plus q) _ _ (stepN_new g hq) ⟨q, rfl, .inr rfl, upd_same⟩ fun _ => ⟨q, rfl, hq⟩

/-! ### assignments -/
/-- name = e -/
theorem ex_setN (i : Nat) {f : Ent} {x : Str} {px : Pos} (hN : X.N.Nodup) (h : EvN T X es e f) (hr : Ex T X (es.set i f) rest P) (hi : X.N[i]? = some x := by rfl) (hx : Loc X.env.scope x := by first | exact Or.inl rfl | exact Or.inr rfl) (hs : swapsWith e (some (.Name x px)) pos.line X.env = pure false := by rfl) (hf : X.fn x = true ∨ X.env.scope.names.lookup x = some .local := by first | exact .inl rfl | exact .inr rfl) : Ex T X es (.Assign [.Name x px] e pos :: rest) P :=
  ex_cons fun p H σ D g o fi => wS1_of (ps_set hN hi hx pe_w hs hf) (h p H σ _ g o fun p' H' v s ho fr => fi.nx _ p' H' _ s.st hr (o.setN g s ho fr))
theorem ex_set (i : Nat) {x : Str} {px : Pos} (hN : X.N.Nodup) (h : Ev T X es e S) (hr : ∀ d, S d → Ex T X (es.set i (.dat d)) rest P) (hi : X.N[i]? = some x := by rfl) (hx : Loc X.env.scope x := by first | exact Or.inl rfl | exact Or.inr rfl) (hs : swapsWith e (some (.Name x px)) pos.line X.env = pure false := by rfl) (hf : X.fn x = true ∨ X.env.scope.names.lookup x = some .local := by first | exact .inl rfl | exact .inr rfl) : Ex T X es (.Assign [.Name x px] e pos :: rest) P :=
  ex_cons fun p H σ D g o fi => wS1_of (ps_set hN hi hx pe_w hs hf) (h p H σ _ g o fun H' v d g' r q => fi.nx _ p H' _ (.of_gr g g') (hr d q) ((o.go g g').set (fun z => z) ⟨v, rfl, r⟩))
theorem ex_setD (i : Nat) {d : D} {x : Str} {px : Pos} (hN : X.N.Nodup) (h : Ev T X es e (Eq d)) (hr : Ex T X (es.set i (.dat d)) rest P) (hi : X.N[i]? = some x := by rfl) (hx : Loc X.env.scope x := by first | exact Or.inl rfl | exact Or.inr rfl) (hs : swapsWith e (some (.Name x px)) pos.line X.env = pure false := by rfl) (hf : X.fn x = true ∨ X.env.scope.names.lookup x = some .local := by first | exact .inl rfl | exact .inr rfl) : Ex T X es (.Assign [.Name x px] e pos :: rest) P :=
  ex_set i hN h (fun d' q => by rw [← q]; exact hr) hi hx hs hf
/-- name = [..], the name a local -/
theorem ex_setLc (i : Nat) {elt tg iter : Expr} {ifs : List Expr} {scope : Scope} {own : List (Str × Nat)} {α : Type} {enc : α → D} {C : α → Bool → Prop} {F : α → D → Prop} {A : List α → Prop} {x : Str} {px cpos : Pos} (hN : X.N.Nodup) (hc : X.calm = true) (ok : BlkOk X.N X.env.scope scope own) (hi : Wk T X es tg iter fun xs => ∃ L, xs = L.map enc ∧ A L) (hl : ∀ L, A L → L.length ≤ sizeLine)
    (hb : ∀ L, A L → ∀ x ∈ L, ∃ es', ∀ s H c cl fp, Bd T (bX X scope s H c cl fp) (own.map (·.2)) tg (enc x) (wipeE es (own.map (·.2))) es' ∧ Tvs T (bX X scope s H c cl fp) es' ifs (C x) ∧ (C x true → Ev T (bX X scope s H c cl fp) es' elt (F x)))
    (hr : ∀ L ys, A L → LcOut C F L ys → Ex T X (es.set i (.dat (.list ys))) rest P)
    (hy : X.N[i]? = some x := by rfl) (hyl : X.env.scope.names.lookup x = some .local := by rfl) (hsw : swapsWith (.ListComp elt [⟨tg, iter, ifs, 0⟩] scope cpos) (some (.Name x px)) pos.line X.env = pure true := by exact sw_true rfl rfl rfl (by decide +kernel)) (hs : ∀ x, foldedSetIterable iter X.env x = pure x := by intro _; rfl) : Ex T X es (.Assign [.Name x px] (.ListComp elt [⟨tg, iter, ifs, 0⟩] scope cpos) pos :: rest) P :=
  ex_cons fun p H σ D g o fi => wS1_of (ps_setLc hc hN hy hyl hsw pi_w ok pg_B pt_B pe_B hs) (lc_read hi hl hb p H σ _ g o fun H' v d g' r ⟨L, ys, h1, h2, h3⟩ => by
    subst h2
    exact fi.nx _ p H' _ (.of_gr g g') (hr L ys h1 h3) ((o.go g g').set (fun z => z) ⟨v, rfl, r⟩))
theorem ex_setLcD (i : Nat) {elt tg iter : Expr} {ifs : List Expr} {scope : Scope} {own : List (Str × Nat)} {α : Type} {enc : α → D} {L : List α} {cf : α → Bool} {f : α → D} {x : Str} {px cpos : Pos} (hN : X.N.Nodup) (hc : X.calm = true) (ok : BlkOk X.N X.env.scope scope own) (hi : Wk T X es tg iter (Eq (L.map enc))) (hl : L.length ≤ sizeLine)
    (hb : ∀ x ∈ L, ∃ es', ∀ s H c cl fp, Bd T (bX X scope s H c cl fp) (own.map (·.2)) tg (enc x) (wipeE es (own.map (·.2))) es' ∧ Tvs T (bX X scope s H c cl fp) es' ifs (Eq (cf x)) ∧ (cf x = true → Ev T (bX X scope s H c cl fp) es' elt (Eq (f x))))
    (hr : Ex T X (es.set i (.dat (.list ((L.filter cf).map f)))) rest P)
    (hy : X.N[i]? = some x := by rfl) (hyl : X.env.scope.names.lookup x = some .local := by rfl) (hsw : swapsWith (.ListComp elt [⟨tg, iter, ifs, 0⟩] scope cpos) (some (.Name x px)) pos.line X.env = pure true := by exact sw_true rfl rfl rfl (by decide +kernel)) (hs : ∀ x, foldedSetIterable iter X.env x = pure x := by intro _; rfl) : Ex T X es (.Assign [.Name x px] (.ListComp elt [⟨tg, iter, ifs, 0⟩] scope cpos) pos :: rest) P :=
  ex_setLc i (A := fun M => M = L) (C := fun x b => cf x = b) (F := fun x y => f x = y) hN hc ok (fun p H σ R g o k => hi p H σ R g o fun J H1 xs g1 e W => k J H1 xs g1 ⟨L, e.symm, rfl⟩ W) (fun M e => by rw [e]; exact hl) (fun M e x hx => by
    rw [e] at hx
    exact hb x hx) (fun M ys e h => by
    subst e
    rw [h.eq]
    exact hr) hy hyl hsw hs
/-- targets = e, e a tuple -/
theorem ex_asg {tg : Expr} {d : D} {es' : List Ent} {vs : List Nat} (h : Ev T X es e (Eq d)) (hb : Bd T X vs tg d es es') (hr : Ex T X es' rest P) (hs : swapsWithSole [tg] e pos.line X.env = pure false := by rfl) (hw : swappedStores [tg] e X.env = pure none := by rfl)
    (h1 : (assignEach [tg] X.env).map (·.2) = [assign tg X.env] := by rfl) : Ex T X es (.Assign [tg] e pos :: rest) P :=
  ex_cons fun p H σ D g o fi => wS1_of (ps_asg pe_w pg_w hs hw h1) (h p H σ _ g o fun H' v d' g' r q => by
    subst q
    exact hb p H' σ v _ (g.go g') (o.go g g') r fun σ' o' _ _ => fi.nx _ p H' σ' (.of_gr g g') hr o')

/-! ### return, if, expressions -/
theorem Rp.outs {K : PySem.W.Frag} {p : Pr} {H : Hp} {v : V} {d : D} (r : Rp K p.own H v d) : Rp K p.out H v d := r.mono (.weak fun a z => by
  rcases z with h | h
  · exact .inl h
  · exact .inr (.inr h))
theorem Rps.outs {K : PySem.W.Frag} {p : Pr} {H : Hp} {v : List V} {d : List D} (r : Rps K p.own H v d) : Rps K p.out H v d := r.mono (.weak fun a z => by
  rcases z with h | h
  · exact .inl h
  · exact .inr (.inr h))
theorem ex_ret (h : Ev T X es e P.rt) : Ex T X es (.Return (some e) pos :: rest) P := ex_cons fun p H σ D g o fi => wS1_of (ps_ret pe_w) (h p H σ _ g o fun H' v d g' r q => fi.rt d v p H' (.of_gr g g') q r.outs)
/-- return of a cell of one's own -/
theorem ex_retR (h : EvR T X es e P.rt) : Ex T X es (.Return (some e) pos :: rest) P := ex_cons fun p H σ D g o fi => wS1_of (ps_ret pe_w) (h p H σ _ g o fun H' v d g' r q => by
  refine fi.rt d v p H' (.of_gr g g') q ?_
  rcases r with r | ⟨a, xs, ds, e1, e2, l, hq, r⟩ | ⟨a, kvs, e1, e2, l, hq⟩
  · exact r.outs
  · subst e1 e2
    exact .lst ⟨fun z => by
      rcases z with h | h
      · exact g.lc a l h
      · exact g.rl a l h, hq⟩ r.outs
  · subst e1
    exact .dic (fun z => by
      rcases z with h | h
      · exact g.lc a l h
      · exact g.rl a l h) hq e2)
theorem ex_if {A : Bool → Prop} {u v : List Stmt} (hc : Tv T X es c A) (h1 : A true → Ex T X es u { P with nx := fun es' => Ex T X es' rest P }) (h2 : A false → Ex T X es v { P with nx := fun es' => Ex T X es' rest P }) : Ex T X es (.If c u v pos :: rest) P :=
  ex_cons fun p H σ D g o fi => wS1_of (ps_if pt_w pss_w pss_w) (hc p H σ _ g o fun H' b g' q => by
    have s := Step.of_gr g g'
    cases b with
    | true => exact iteT (h1 q p H' σ D (g.go g') (o.go g g') (fi.go s))
    | false => exact iteF (h2 q p H' σ D (g.go g') (o.go g g') (fi.go s)))
/-- an if whose test is known -/
theorem ex_ifT {u v : List Stmt} (hc : Tv T X es c (Eq true)) (h1 : Ex T X es u { P with nx := fun es' => Ex T X es' rest P }) : Ex T X es (.If c u v pos :: rest) P := ex_if hc (fun _ => h1) (fun q => nomatch q)
theorem ex_ifF {u v : List Stmt} (hc : Tv T X es c (Eq false)) (h2 : Ex T X es v { P with nx := fun es' => Ex T X es' rest P }) : Ex T X es (.If c u v pos :: rest) P := ex_if hc (fun q => nomatch q) (fun _ => h2)
theorem ex_ifF0 {u : List Stmt} (hc : Tv T X es c (Eq false)) (h2 : Ex T X es rest P) : Ex T X es (.If c u [] pos :: rest) P := ex_ifF hc (ex_nil h2)
theorem ex_expr (h : Ev T X es e fun _ => True) (hr : Ex T X es rest P) (hs : swapsWith e none pos.line X.env = pure false := by rfl) : Ex T X es (.Expr e pos :: rest) P :=
  ex_cons fun p H σ D g o fi => wS1_of (ps_expr pe_w hs) (h p H σ _ g o fun H' v d g' r q => fi.nx _ p H' σ (.of_gr g g') hr (o.go g g'))
end
end DL
end
section
set_option Elab.async false
set_option linter.all false
set_option autoImplicit false
set_option maxRecDepth 100000
set_option maxHeartbeats 2000000
/-! Writes to cells of one's own, loops, pairs of names. -/
namespace DL
open PySem PySem.Spec L2
open PyProof.Rows hiding St

/-! ### a cell of one's own is written -/
section
variable {T : Addr → Prop} {K : PySem.W.Frag} {p : Pr} {H : Hp} {a : Addr} {x y : HO} {σ : St} {es : List Ent}
theorem write_mono (hl : p.loc a) : Mono p.own H p.own (upd H a y) := fun b z e n _ => ⟨by rw [upd_ne (fun q => n (.inr (.inl (by rw [q]; exact hl))))]; exact e, n⟩
theorem Good.write (g : Good T p H) (hl : p.loc a) (hx : H a = some x) (nt : ∀ ps, x ≠ .tbl ps) (ny : ∀ xs, y ≠ .tup xs := by intro _ z; cases z) : Good T p (upd H a y) where
  there := fun b hb => by
    by_cases e : b = a
    · exact ⟨y, by rw [e]; exact upd_same⟩
    · obtain ⟨z, q⟩ := g.there b hb
      exact ⟨z, by rw [upd_ne e]; exact q⟩
  tabs := fun t ht => tabG_kept (r := False) (g.tabs t ht) fun z e => by
    by_cases q : t = a
    · obtain ⟨ps, e2, _⟩ := g.tabs t ht
      rw [q, hx] at e2
      exact absurd (Option.some.inj e2) (nt ps)
    · exact ⟨z, by rw [upd_ne q]; exact e, .refl⟩
  rl := g.rl
  lc := g.lc
  nt := fun b xs hb e => by
    by_cases q : b = a
    · rw [q, upd_same] at e
      exact ny xs (Option.some.inj e)
    · rw [upd_ne q] at e
      exact g.nt b xs hb e
theorem step_write (g : Good T p H) (hl : p.loc a) (hx : H a = some x) (nt : ∀ ps, x ≠ .tbl ps) (ny : ∀ xs, y ≠ .tup xs := by intro _ z; cases z) : Step T p H p (upd H a y) :=
  ⟨fun b z e n => ⟨z, by rw [upd_ne (fun q => n (by rw [q]; exact hl))]; exact e, .refl⟩, rfl, fun _ h => h, fun _ _ _ h => h, fun _ _ _ h => .inl h, g.write hl hx nt ny⟩
theorem EnvOk.write {i : Nat} {f : Ent} (o : EnvOk K p H σ es) (g : Good T p H) (hl : p.loc a) (hi : Owned es i) (hs : σ[i]? = some (some (.ref a))) (hf : EntOk K p (upd H a y) (some (.ref a)) f) : EnvOk K p (upd H a y) σ (es.set i f) := by
  have m := write_mono (H := H) (y := y) hl
  have own' : ∀ j, Owned (es.set i f) j → Owned es j := fun j ⟨e, q, ho⟩ => by
    by_cases hij : i = j
    · rw [← hij]
      exact hi
    · rw [List.getElem?_set_ne hij] at q
      exact ⟨e, q, ho⟩
  refine ⟨by rw [List.length_set]; exact o.len, fun j e q => ?_, fun j k b ne h1 h2 e1 => o.apart j k b ne (own' j h1) (own' k h2) e1⟩
  by_cases hij : i = j
  · subst hij
    have hl' : i < es.length := by
      obtain ⟨h, _⟩ := List.getElem?_eq_some_iff.mp q
      rw [List.length_set] at h
      exact h
    rw [List.getElem?_set_self hl'] at q
    cases q
    rw [hs]
    exact hf
  · rw [List.getElem?_set_ne hij] at q
    have h := o.at_ j e q
    cases e with
    | unk => trivial
    | dat d =>
      obtain ⟨x, e, r⟩ := h
      exact ⟨x, e, r.mono m⟩
    | lst ds =>
      obtain ⟨b, xs, e, l, q2, r⟩ := h
      have ne : b ≠ a := fun z => o.apart i j a hij hi ⟨_, q, trivial⟩ hs (by rw [← z]; exact getD_some e)
      exact ⟨b, xs, e, l, by rw [upd_ne ne]; exact q2, r.mono m⟩
    | dic kvs =>
      obtain ⟨b, e, l, q2⟩ := h
      have ne : b ≠ a := fun z => o.apart i j a hij hi ⟨_, q, trivial⟩ hs (by rw [← z]; exact getD_some e)
      exact ⟨b, e, l, by rw [upd_ne ne]; exact q2⟩
    | row ns =>
      obtain ⟨r, x, s, e, l, q2, rv, rp, hn⟩ := h
      have ne : r ≠ a := fun z => g.rl a hl (by rw [← z]; exact l)
      exact ⟨r, x, s, e, l, by rw [upd_ne ne]; exact q2, rv, rp.mono m, hn⟩
/-- a list, a dict of one's own is shown no more: it is a datum from here on -/
def Pr.less (p : Pr) (a : Addr) : Pr := ⟨p.cal, fun b => p.loc b ∧ b ≠ a, p.row⟩
theorem less_weak {b : Addr} (h : (p.less a).own b) : p.own b := by
  rcases h with h | h | h
  · exact .inl h
  · exact .inr (.inl h.1)
  · exact .inr (.inr h)
theorem step_less (g : Good T p H) : Step T p H (p.less a) H :=
  ⟨.refl H, rfl, fun _ h => h, fun _ _ _ h => h.1, fun _ _ _ h => .inl h, fun b h => g.there b (less_weak h), g.tabs, fun b h => g.rl b h.1, fun b h => g.lc b h.1, fun b xs h => g.nt b xs (less_weak h)⟩
theorem less_out (g : Good T p H) (hl : p.loc a) : ¬ (p.less a).own a := by
  rintro (h | h | h)
  · exact g.lc a hl h
  · exact h.2 rfl
  · exact g.rl a hl h
theorem EnvOk.less {i : Nat} {f : Ent} (o : EnvOk K p H σ es) (hi : Owned es i) (hs : σ[i]? = some (some (.ref a))) (hn : ¬ f.isOwn) (hf : EntOk K (p.less a) H (some (.ref a)) f) : EnvOk K (p.less a) H σ (es.set i f) := by
  have m : Mono p.own H (p.less a).own H := .weak fun b h => less_weak h
  have own' : ∀ j, Owned (es.set i f) j → Owned es j ∧ i ≠ j := fun j h => by
    obtain ⟨h1, h2⟩ := h.set hn
    refine ⟨h1, fun z => ?_⟩
    rcases h2 with h2 | h2
    · exact h2 z.symm
    · obtain ⟨e, q, _⟩ := hi
      have := (List.getElem?_eq_some_iff.mp q).1
      omega
  refine ⟨by rw [List.length_set]; exact o.len, fun j e q => ?_, fun j k b ne h1 h2 e1 => o.apart j k b ne (own' j h1).1 (own' k h2).1 e1⟩
  by_cases hij : i = j
  · subst hij
    have hl' : i < es.length := by
      obtain ⟨h, _⟩ := List.getElem?_eq_some_iff.mp q
      rw [List.length_set] at h
      exact h
    rw [List.getElem?_set_self hl'] at q
    cases q
    rw [hs]
    exact hf
  · rw [List.getElem?_set_ne hij] at q
    have h := o.at_ j e q
    cases e with
    | unk => trivial
    | dat d =>
      obtain ⟨x, e, r⟩ := h
      exact ⟨x, e, r.mono m⟩
    | lst ds =>
      obtain ⟨b, xs, e, l, q2, r⟩ := h
      have ne : b ≠ a := fun z => o.apart i j a hij hi ⟨_, q, trivial⟩ hs (by rw [← z]; exact getD_some e)
      exact ⟨b, xs, e, ⟨l, ne⟩, q2, r.mono m⟩
    | dic kvs =>
      obtain ⟨b, e, l, q2⟩ := h
      have ne : b ≠ a := fun z => o.apart i j a hij hi ⟨_, q, trivial⟩ hs (by rw [← z]; exact getD_some e)
      exact ⟨b, e, ⟨l, ne⟩, q2⟩
    | row ns =>
      obtain ⟨r, x, s, e, l, q2, rv, rp, hn⟩ := h
      exact ⟨r, x, s, e, l, q2, rv, rp.mono m, hn⟩
end

section
variable {T : Addr → Prop} {X : Cx} {es : List Ent} {e a b c : Expr} {l : List Expr} {body rest : List Stmt} {pos : Pos} {S A B C : D → Prop} {P : Po} {st : Stmt}
/-- from here on the list at i is only read -/
theorem ex_frzL (i : Nat) {ds : List D} (he : es[i]? = some (.lst ds)) (hr : Ex T X (es.set i (.dat (.list ds))) rest P) : Ex T X es rest P := fun p H σ D g o f => by
  obtain ⟨a, xs, e, l, q, r⟩ := o.lst he
  have s := step_less (a := a) g
  exact hr (p.less a) H σ D s.good (o.less ⟨_, he, trivial⟩ e (fun z => z) ⟨_, rfl, .lst ⟨less_out g l, q⟩ (r.mono (.weak fun b h => less_weak h))⟩) (f.go s)
theorem ex_frzD (i : Nat) {kvs : KD} (he : es[i]? = some (.dic kvs)) (hr : Ex T X (es.set i (.dat (dicD kvs))) rest P) : Ex T X es rest P := fun p H σ D g o f => by
  obtain ⟨a, e, l, q⟩ := o.dic he
  have s := step_less (a := a) g
  exact hr (p.less a) H σ D s.good (o.less ⟨_, he, trivial⟩ e (fun z => z) ⟨_, rfl, .dic (less_out g l) q rfl⟩) (f.go s)
theorem EntsOk.lst {K : PySem.W.Frag} {p : Pr} {H : Hp} {v : Option V} {ds : List D} (h : EntOk K p H v (.lst ds)) : ∃ a xs, v = some (.ref a) ∧ p.loc a ∧ H a = some (.lst xs) ∧ Rps K p.own H xs ds := h
/-- xs.append(e), xs one's own -/
theorem ex_app (i : Nat) {x : Str} {ds : List D} {d : D} {px apos cpos : Pos} (he : es[i]? = some (.lst ds)) (hN : X.N[i]? = some x) (hv : Vis X.env.scope x) (ha : Ev T X es e (Eq d)) (hr : Ex T X (es.set i (.lst (ds ++ [d]))) rest P) (hl : ds.length < sizeLine)
    (hbase : attributeBase (.Name x px) "append" X.env (eval (.Name x px) X.env) = eval (.Name x px) X.env := by rfl)
    (hfew : ((backTo cpos (starEach [e] X.env)).all (fun x => !x.1) && (backToKw cpos (keywordEach [] X.env)).all (fun x => x.1.isSome) && decide ([e].length + ([] : List Keyword).length + (if ([] : List Keyword).isEmpty then 0 else 1) < 30)) = true := by rfl)
    (hline : (apos.endLine == cpos.line) = true := by rfl) (hs : starEach [e] X.env = (false, eval e X.env) :: starEach [] X.env := by rfl) (hplain : (backTo cpos (starEach [] X.env)).any (·.1) = false := by rfl)
    (hsw : swapsWith (.Call (.Attribute (.Name x px) "append" apos) [e] [] cpos) none pos.line X.env = pure false := by rfl) (hd : (x == ("__debug__" : Str)) = false := by decide) (hcd : (x == ("__classdict__" : Str)) = false := by decide) :
    Ex T X es (.Expr (.Call (.Attribute (.Name x px) "append" apos) [e] [] cpos) pos :: rest) P :=
  ex_cons fun p H σ D g o fi => by
    obtain ⟨q, xs, e1, l1, h1, r1⟩ := o.lst he
    refine wS1_of (ps_expr (pe_bm PySem.F.plainAttrs_list PySem.F.slot_list_append PySem.F.type_list_append mt_append (pv i hN hv hd hcd) (pa_cons pe_w pa_nil hs) hbase hfew hline hs hplain) hsw) ⟨_, e1, .inl ⟨rfl, _, SqL.of h1⟩, ?_⟩
    refine ha p H σ _ g o fun H1 v d' g1 rv qv => ?_
    subst qv
    have G1 := g.go g1
    have h1' := g1.own g l1 h1 (fun ps z => by cases z)
    have st := (Step.of_gr g g1).trans (step_write (a := q) (y := .lst (xs ++ [v])) G1 l1 h1' (fun ps z => by cases z))
    refine ⟨q, xs, v, rfl, rfl, h1', by rw [r1.length]; exact hl, fi.nx _ p _ σ st hr ((o.go g g1).write G1 l1 ⟨_, he, trivial⟩ e1 ⟨q, _, rfl, l1, upd_same, ?_⟩)⟩
    exact ((r1.mono g1.mono).append (.cons rv .nil)).mono (write_mono l1)
/-- d[k] = e, d one's own -/
theorem ex_put (i : Nat) {n : Nat} {x : Str} {kvs : KD} {k : List Int} {v : Int} {px tpos : Pos} (hr : Room n X.A) (he : es[i]? = some (.dic kvs)) (hN : X.N[i]? = some x) (hv : Vis X.env.scope x) (ha : Ev T X es e (Eq (.int v))) (hb : Ev T X es b (Eq (.tuple (k.map .int)))) (hn : Ex T X (es.set i (.dic (putD kvs k v))) rest P) (hl : kvs.length < sizeLine)
    (hk : k ≠ [] := by exact List.cons_ne_nil _ _) (hsw : swapsWith e (some (.Subscript (.Name x px) b tpos)) pos.line X.env = pure false := by rfl) (hd : (x == ("__debug__" : Str)) = false := by decide) (hcd : (x == ("__classdict__" : Str)) = false := by decide) :
    Ex T X es (.Assign [.Subscript (.Name x px) b tpos] e pos :: rest) P :=
  ex_cons fun p H σ D g o fi => by
    obtain ⟨q, e1, l1, h1⟩ := o.dic he
    refine wS1_of (ps_dput (hu_of hr) (pv i hN hv hd hcd) pe_w pe_w hsw) (ha p H σ _ g o fun H1 u d' g1 rv qv => ⟨_, e1, hb p H1 σ _ (g.go g1) (o.go g g1) fun H2 y dy g2 ry qy => ?_⟩)
    subst qv qy
    have g12 := g1.trans g2
    have G2 := g.go g12
    have h2 := g12.own g l1 h1 (fun ps z => by cases z)
    obtain ⟨t, e2, ht⟩ := ry.key hk
    subst e2
    have ev := rv.int_v
    subst ev
    have st := (Step.of_gr g g12).trans (step_write (a := q) (y := .dT (encK (putD kvs k v))) G2 l1 h2 (fun ps z => by cases z))
    refine ⟨q, _, rfl, DPut.t h2 ht (by rw [encK_length]; exact hl), ?_⟩
    rw [put_enc]
    exact fi.nx _ p _ σ st hn ((o.go g g12).write G2 l1 ⟨_, he, trivial⟩ e1 ⟨q, rfl, l1, upd_same⟩)
/-- x += e, x -= e -/
theorem ex_augI (i : Nat) {op : Operator} {f : Int → Int → Int} {x : Str} {j m : Int} {px : Pos} (hop : PIp X op (ipI f)) (hN : X.N.Nodup) (he : es[i]? = some (.dat (.int j))) (ha : Ev T X es e (Eq (.int m))) (hr : Ex T X (es.set i (.dat (.int (f j m)))) rest P) (hi : X.N[i]? = some x := by rfl) (hx : Loc X.env.scope x := by first | exact Or.inl rfl | exact Or.inr rfl)
    (hf : X.fn x = true ∨ X.env.scope.names.lookup x = some .local := by first | exact .inl rfl | exact .inr rfl) : Ex T X es (.AugAssign (.Name x px) op e pos :: rest) P :=
  ex_cons fun p H σ D g o fi => by
    obtain ⟨v, e1, r1⟩ := o.dat he
    have ev := r1.int_v
    subst ev
    refine wS1_of (ps_aug hN hi hx pe_w hop hf) ⟨_, e1, ha p H σ _ g o fun H1 u d' g1 rv qv => ?_⟩
    subst qv
    exact ⟨j, m, rfl, rv.int_v, fi.nx _ p H1 _ (.of_gr g g1) hr ((o.go g g1).set (fun z => z) ⟨_, rfl, .int _⟩)⟩
/-- x, y = e, e', both names plain locals -/
theorem ex_par (i j : Nat) {x y : Str} {f f' : Ent} {px py pt : Pos} {kt k2 : Nat} {pt2 : Pos} (hc : X.calm = true) (hN : X.N.Nodup) (ha : EvN T X es a f) (hb : EvN T X es b f') (hr : Ex T X ((es.set i f).set j f') rest P) (hij : i ≠ j := by decide) (hi : X.N[i]? = some x := by rfl) (hj : X.N[j]? = some y := by rfl)
    (hx : X.env.scope.names.lookup x = some .local := by rfl) (hy : X.env.scope.names.lookup y = some .local := by rfl)
    (hw : swappedStores [.Tuple [.Name x px, .Name y py] kt pt] (.Tuple [a, b] k2 pt2) X.env = pure (some [x, y]) := by rfl)
    (hs : swapsWithSole [.Tuple [.Name x px, .Name y py] kt pt] (.Tuple [a, b] k2 pt2) pos.line X.env = pure false := by rfl)
    (h1 : starEach [a, b] X.env = (false, eval a X.env) :: starEach [b] X.env := by rfl) (h2 : starEach [b] X.env = (false, eval b X.env) :: starEach [] X.env := by rfl) :
    Ex T X es (.Assign [.Tuple [.Name x px, .Name y py] kt pt] (.Tuple [a, b] k2 pt2) pos :: rest) P :=
  ex_cons fun p H σ D g o fi => wS1_of (ps_par hc hN hi hj hij hx hy (pa_cons pe_w (pa_cons pe_w pa_nil h2) h1) hw hs)
    (ha p H σ _ g o fun p1 H1 v s1 o1 f1 => hb p1 H1 σ _ s1.st.good (o.goN g s1) fun p2 H2 w s2 o2 f2 =>
      ⟨v, w, rfl, fi.nx _ p2 H2 _ (s1.st.trans s2.st) hr ((o.setN g s1 o1 f1).setN s1.st.good s2 o2 f2)⟩)
theorem ex_par3 (i j m : Nat) {x y z : Str} {f f' f'' : Ent} {px py pz pt : Pos} {kt k2 : Nat} {pt2 : Pos} (hc : X.calm = true) (hN : X.N.Nodup) (ha : EvN T X es a f) (hb : EvN T X es b f') (hcc : EvN T X es c f'') (hr : Ex T X (((es.set i f).set j f').set m f'') rest P) (hij : i ≠ j := by decide) (him : i ≠ m := by decide) (hjm : j ≠ m := by decide) (hi : X.N[i]? = some x := by rfl) (hj : X.N[j]? = some y := by rfl) (hm : X.N[m]? = some z := by rfl)
    (hx : X.env.scope.names.lookup x = some .local := by rfl) (hy : X.env.scope.names.lookup y = some .local := by rfl) (hz : X.env.scope.names.lookup z = some .local := by rfl)
    (hw : swappedStores [.Tuple [.Name x px, .Name y py, .Name z pz] kt pt] (.Tuple [a, b, c] k2 pt2) X.env = pure (some [x, y, z]) := by rfl)
    (hs : swapsWithSole [.Tuple [.Name x px, .Name y py, .Name z pz] kt pt] (.Tuple [a, b, c] k2 pt2) pos.line X.env = pure false := by rfl)
    (h1 : starEach [a, b, c] X.env = (false, eval a X.env) :: starEach [b, c] X.env := by rfl) (h2 : starEach [b, c] X.env = (false, eval b X.env) :: starEach [c] X.env := by rfl) (h3 : starEach [c] X.env = (false, eval c X.env) :: starEach [] X.env := by rfl) :
    Ex T X es (.Assign [.Tuple [.Name x px, .Name y py, .Name z pz] kt pt] (.Tuple [a, b, c] k2 pt2) pos :: rest) P :=
  ex_cons fun p H σ D g o fi => wS1_of (ps_par3 hc hN hi hj hm hij him hjm hx hy hz (pa_cons pe_w (pa_cons pe_w (pa_cons pe_w pa_nil h3) h2) h1) hw hs)
    (ha p H σ _ g o fun p1 H1 v s1 o1 f1 => hb p1 H1 σ _ s1.st.good (o.goN g s1) fun p2 H2 w s2 o2 f2 =>
      hcc p2 H2 σ _ s2.st.good ((o.goN g s1).goN s1.st.good s2) fun p3 H3 u s3 o3 f3 =>
      ⟨v, w, u, rfl, fi.nx _ p3 H3 _ ((s1.st.trans s2.st).trans s3.st) hr (((o.setN g s1 o1 f1).setN s1.st.good s2 o2 f2).setN s2.st.good s3 o3 f3)⟩)

/-! ### loops -/
theorem ex_while {n : Nat} (I : Nat → List Ent → Prop) (hp : PassesOwn (model X.prog X.w) X.A X.env X.xe) (h0 : I n es)
    (hb : ∀ m es', I m es' → ∃ A : Bool → Prop, Tv T X es' c A ∧ (A true → Ex T X es' body { P with nx := fun e => ∃ m', m' < m ∧ I m' e, ct := fun e => ∃ m', m' < m ∧ I m' e, bk := fun e => Ex T X e rest P }) ∧ (A false → Ex T X es' rest P)) : Ex T X es (.While c body [] pos :: rest) P :=
  ex_cons fun p H σ D g o fi => wS1_of (ps_while hp pt_w pss_w) (by
    refine ⟨fun m σ' H' => ∃ p' es', Step T p H p' H' ∧ I m es' ∧ EnvOk X.K p' H' σ' es', ⟨n, p, es, .refl g, h0, o⟩, ?_⟩
    rintro m σ' H' ⟨p', es', st, hI, o'⟩
    obtain ⟨A, ht, h1, h2⟩ := hb m es' hI
    refine ht p' H' σ' _ st.good o' fun H1 b g1 hA => ?_
    have s1 := st.trans (.of_gr st.good g1)
    cases b with
    | false => exact iteF (fi.nx _ p' H1 σ' s1 (h2 hA) (o'.go st.good g1))
    | true =>
      refine iteT ⟨fun σ2 H2 => ∃ m', m' < m ∧ ∃ p' es', Step T p H p' H2 ∧ I m' es' ∧ EnvOk X.K p' H2 σ2 es', fun _ _ h => h, ?_⟩
      refine h1 hA p' H1 σ' _ s1.good (o'.go st.good g1) ⟨?_, ?_, ?_, ?_⟩
      · rintro es2 p2 H2 σ2 s2 ⟨m', hm, hI2⟩ o2
        exact ⟨m', hm, p2, es2, s1.trans s2, hI2, o2⟩
      · intro d v p2 H2 s2 hd r
        exact fi.rt d v p2 H2 (s1.trans s2) hd r
      · intro es2 p2 H2 σ2 s2 hx o2
        exact fi.nx es2 p2 H2 σ2 (s1.trans s2) hx o2
      · rintro es2 p2 H2 σ2 s2 ⟨m', hm, hI2⟩ o2
        exact ⟨m', hm, p2, es2, s1.trans s2, hI2, o2⟩)
theorem ex_for (vs : List Nat) {α : Type} {enc : α → D} {A : List α → Prop} {tg iter : Expr} (I : List α → Nat → List Ent → Prop) (hp : PassesOwn (model X.prog X.w) X.A X.env X.xe) (hc : X.calm = true) (hw : Wk T X es tg iter fun xs => ∃ L, xs = L.map enc ∧ A L) (h0 : ∀ L, A L → I L 0 es)
    (hb : ∀ L, A L → ∀ i x es', L[i]? = some x → I L i es' → ∃ es2, Bd T X vs tg (enc x) es' es2 ∧ Ex T X es2 body { P with nx := I L (i + 1), ct := I L (i + 1), bk := fun e => Ex T X e rest P })
    (hr : ∀ L, A L → ∀ es', I L L.length es' → Ex T X es' rest P) (hs : ∀ x, foldedSetIterable iter X.env x = pure x := by intro _; rfl) : Ex T X es (.For tg iter body [] pos :: rest) P :=
  ex_cons fun p H σ D g o fi => wS1_of (ps_for hp hc pi_w pg_w pss_w hs) (hw p H σ _ g o fun J H1 xs g1 hA W => by
    obtain ⟨L, rfl, hAL⟩ := hA
    have s1 := Step.of_gr g g1
    refine ⟨fun i m σ' H' => m = L.length - i ∧ i ≤ L.length ∧ ∃ p' es', Step T p H1 p' H' ∧ I L i es' ∧ EnvOk X.K p' H' σ' es', ⟨L.length, by simp, Nat.zero_le _, p, es, .refl s1.good, h0 L hAL, o.go g g1⟩, ?_⟩
    rintro i m σ' H' ⟨rfl, hi, p', es', st, hI, o'⟩
    obtain ⟨w1, w2, w3⟩ := W.at_ p' H' st.mono st.good
    rw [List.length_map] at w1 w2 w3
    by_cases hlt : i < L.length
    · refine .inr ⟨w1 i hlt, fun σ2 H2 => ∃ p2 es2, Step T p H1 p2 H2 ∧ I L (i + 1) es2 ∧ EnvOk X.K p2 H2 σ2 es2, fun σ2 H2 q => ⟨L.length - (i + 1), by omega, rfl, hlt, q⟩, fun v H2 y => ?_⟩
      obtain ⟨g2, d, ed, rd⟩ := w3 i v H2 hlt y
      rw [List.getElem?_map, List.getElem?_eq_getElem hlt] at ed
      cases ed
      have hx : L[i]? = some L[i] := List.getElem?_eq_getElem hlt
      obtain ⟨es2, hbd, hex⟩ := hb L hAL i L[i] es' hx hI
      have s2 := st.trans (.of_gr st.good g2)
      refine hbd p' H2 σ' v _ s2.good (o'.go st.good g2) rd fun σ2 o2 _ _ => ?_
      refine hex p' H2 σ2 _ s2.good o2 ⟨?_, ?_, ?_, ?_⟩
      · intro es3 p3 H3 σ3 s3 hI3 o3
        exact ⟨p3, es3, s2.trans s3, hI3, o3⟩
      · intro d v p3 H3 s3 hd r
        exact fi.rt d v p3 H3 (s1.trans (s2.trans s3)) hd r
      · intro es3 p3 H3 σ3 s3 hx o3
        exact fi.nx es3 p3 H3 σ3 (s1.trans (s2.trans s3)) hx o3
      · intro es3 p3 H3 σ3 s3 hI3 o3
        exact ⟨p3, es3, s2.trans s3, hI3, o3⟩
    · have e : i = L.length := by omega
      subst e
      exact .inl ⟨w2, fi.nx es' p' H' σ' (s1.trans st) (hr L hAL es' hI) o'⟩)
/-- the items known -/
theorem ex_forD (vs : List Nat) {α : Type} {enc : α → D} {L : List α} {tg iter : Expr} (I : Nat → List Ent → Prop) (hp : PassesOwn (model X.prog X.w) X.A X.env X.xe) (hc : X.calm = true) (hw : Wk T X es tg iter (Eq (L.map enc))) (h0 : I 0 es)
    (hb : ∀ i x es', L[i]? = some x → I i es' → ∃ es2, Bd T X vs tg (enc x) es' es2 ∧ Ex T X es2 body { P with nx := I (i + 1), ct := I (i + 1), bk := fun e => Ex T X e rest P })
    (hr : ∀ es', I L.length es' → Ex T X es' rest P) (hs : ∀ x, foldedSetIterable iter X.env x = pure x := by intro _; rfl) : Ex T X es (.For tg iter body [] pos :: rest) P :=
  ex_for vs (fun _ => I) (A := fun M => M = L) hp hc (fun p H σ R g o k => hw p H σ R g o fun J H1 xs g1 e W => k J H1 xs g1 ⟨L, e.symm, rfl⟩ W) (fun _ _ => h0) (fun M e i x es' h => by
    rw [e] at h
    exact hb i x es' h) (fun M e es' h => by
    rw [e] at h
    exact hr es' h) hs
end
end DL
end
section
set_option Elab.async false
set_option linter.all false
set_option autoImplicit false
set_option maxRecDepth 100000
set_option maxHeartbeats 2000000
/-! A def's promise from a walk of its body. -/
namespace DL
open PySem PySem.Spec L2
open PyProof.Rows hiding St

/-- the place of a def's body -/
abbrev cX (P : Program) (w : World) (K : PySem.W.Frag) (mg : Str → Option Value) (base : Heap) (N : List Str) (qual : Str) (scope : Scope) (f : Addr) (cdv : Value) (A : Around) (outer : List Env) (s : Shared) (H : Hp) (E : XK) : Cx := (cxOf CX0 P w K mg base N qual scope f cdv A outer s H E).nox
def Pr.in_ (p : Pr) : Pr := ⟨fun b => p.cal b ∨ p.loc b, fun _ => False, p.row⟩
theorem in_own {p : Pr} {b : Addr} : p.in_.own b ↔ p.own b := by
  constructor
  · rintro ((h | h) | h | h)
    · exact .inl h
    · exact .inr (.inl h)
    · exact h.elim
    · exact .inr (.inr h)
  · rintro (h | h | h)
    · exact .inl (.inl h)
    · exact .inl (.inr h)
    · exact .inr (.inr h)
theorem in_out {p : Pr} {b : Addr} (h : p.own b) : p.in_.out b := by
  rcases h with h | h | h
  · exact .inl (.inl h)
  · exact .inl (.inr h)
  · exact .inr h
theorem Good.in_ {T : Addr → Prop} {p : Pr} {H : Hp} (g : Good T p H) : Good T p.in_ H := ⟨fun b h => g.there b (in_own.mp h), g.tabs, fun b h => h.elim, fun b h => h.elim, fun b xs h => g.nt b xs (in_own.mp h)⟩
theorem EntOk.in_ {K : PySem.W.Frag} {p : Pr} {H : Hp} {v : Option V} {e : Ent} (o : EntOk K p H v e) (h : ¬ e.isOwn) : EntOk K p.in_ H v e := by
  have m : Mono p.own H p.in_.own H := .weak fun b z => in_own.mp z
  cases e with
  | unk => trivial
  | dat d =>
    obtain ⟨x, e, r⟩ := o
    exact ⟨x, e, r.mono m⟩
  | lst ds => exact absurd trivial h
  | dic kvs => exact absurd trivial h
  | row ns =>
    obtain ⟨r, x, s, e, l, q, rv, rp, hl⟩ := o
    exact ⟨r, x, s, e, l, q, rv, rp.mono m, hl⟩
theorem EntsOk.length {K : PySem.W.Frag} {p : Pr} {H : Hp} : ∀ {vs : List V} {as : List Ent}, EntsOk K p H vs as → vs.length = as.length
  | _, _, .nil => rfl
  | _, _, .cons _ r => congrArg Nat.succ (EntsOk.length r)
theorem EntsOk.at_ {K : PySem.W.Frag} {p : Pr} {H : Hp} : ∀ {vs : List V} {as : List Ent} {i : Nat} {e : Ent}, EntsOk K p H vs as → as[i]? = some e → ∃ v, vs[i]? = some v ∧ EntOk K p H (some v) e
  | _, _, _, _, .nil, h => by simp at h
  | _, _, 0, e, .cons h r, q => by
    simp at q
    subst q
    exact ⟨_, rfl, h⟩
  | _, _, i + 1, e, .cons h r, q => by
    obtain ⟨v, h1, h2⟩ := EntsOk.at_ (i := i) r (by simpa using q)
    exact ⟨v, by simpa using h1, h2⟩
def entSt (N : List Str) (as : List Ent) : List Ent := as ++ List.replicate (N.length - as.length) .unk
theorem env_start {K : PySem.W.Frag} {p : Pr} {H : Hp} {N : List Str} {vs : List V} {as : List Ent} (r : EntsOk K p H vs as) (hn : ∀ e ∈ as, ¬ e.isOwn) : EnvOk K p.in_ H (L2.start N vs) (entSt N as) := by
  have no : ∀ j, ¬ Owned (entSt N as) j := fun j ⟨e, q, ho⟩ => by
    rcases List.mem_append.mp (List.mem_of_getElem? q) with z | z
    · exact hn e z ho
    · rw [List.eq_of_mem_replicate z] at ho
      exact ho
  refine ⟨?_, fun i e q => ?_, fun i j a ne h1 _ _ => absurd h1 (no i)⟩
  · unfold L2.start entSt
    rw [List.length_append, List.length_append, List.length_map, List.length_replicate, List.length_replicate, r.length]
  · unfold entSt at q
    by_cases hi : i < as.length
    · rw [List.getElem?_append_left hi] at q
      obtain ⟨v, e1, o⟩ := r.at_ q
      have : (L2.start N vs)[i]? = some (some v) := by
        unfold L2.start
        rw [List.getElem?_append_left (by rw [List.length_map, r.length]; exact hi), List.getElem?_map, e1]
        rfl
      rw [this]
      exact o.in_ (hn e (List.mem_of_getElem? q))
    · rw [List.getElem?_append_right (by omega)] at q
      have := List.eq_of_mem_replicate (List.mem_of_getElem? q)
      rw [this]
      trivial
section
variable {T : Addr → Prop} {P : Program} {w : World} {K : PySem.W.Frag} {mg : Str → Option Value} {base : Heap} {x qual : Str} {params : Arguments} {body : List Stmt} {scope : Scope} {dvs : List V} {f : Addr} {fd : FuncData} {N ps : List Str} {k : Nat} {sp : SpP} {das : List Ent}
theorem fn_ok (F : FunD K x qual params body scope dvs [] f fd) (S : FnScope N ps scope) (hl : ∀ as S, sp as S → as.length = ps.length ∧ ∀ e ∈ as, ¬ e.isOwn)
    (hbody : ∀ (cdv : Value) (A : Around) (outer : List Env) (s : Shared) (H : Hp) (E : XK), Room k (A.deeper (envOfC qual scope s.heap.objs.size f cdv)) → ∀ as S, sp as S → Ex T (cX P w K mg base N qual scope f cdv A outer s H E) (entSt N as) body { nx := fun _ => S .none, rt := S }) :
    FnOk P w K mg base CX0 (k + 1) f fd ps (SpD T K sp) := by
  refine F.ok S (fun vs H Q E h => ?_) (fun cdv A outer s H vs Q E hr h => ?_)
  · obtain ⟨p, as, S', g, r, hs, _⟩ := h
    rw [r.length]
    exact (hl as S' hs).1
  · obtain ⟨p, as, S', g, r, hs, kk⟩ := h
    refine ⟨_, PSs.nox (X := cxOf CX0 P w K mg base N qual scope f cdv A outer s H E) pss_w, ?_⟩
    refine hbody cdv A outer s H E hr as S' hs p.in_ H (L2.start N vs) _ g.in_ (env_start r (hl as S' hs).2) ⟨?_, ?_, fun _ _ _ _ _ z => z.elim, fun _ _ _ _ _ z => z.elim⟩
    · intro es' p' H' σ' st hS _
      exact kk H' .non .none (fun b y e _ => st.gr b y e (fun z => z)) .non hS
    · intro d v p' H' st hS rd
      exact kk H' v d (fun b y e _ => st.gr b y e (fun z => z)) (rd.mono (.weak fun a z => st.out a (in_out z))) hS
/-- without defaults -/
theorem Fn.make (F : FunD K x qual params body scope [] [] f fd) (hm : mg x = some (.ref f)) (S : FnScope N ps scope) (hl : ∀ as S, sp as S → as.length = ps.length ∧ ∀ e ∈ as, ¬ e.isOwn)
    (hb : ∀ (kV doc pm : Value) (an : Option Addr) (cdv ct : Value) (us : List Value), us.length = ps.length → bindArgs (PySem.W.fnOf x qual params body scope .none kV doc pm an cdv ct) ⟨us, []⟩ = pure (ps.zip us))
    (hbody : ∀ (cdv : Value) (A : Around) (outer : List Env) (s : Shared) (H : Hp) (E : XK), Room k (A.deeper (envOfC qual scope s.heap.objs.size f cdv)) → ∀ as S, sp as S → Ex T (cX P w K mg base N qual scope f cdv A outer s H E) (entSt N as) body { nx := fun _ => S .none, rt := S }) :
    Fn T P w K mg base (k + 1) x sp [] :=
  ⟨f, fd, ps, [], [], hm, F.kp, F.bindsN hb, .nil, fun _ _ _ => .nil, fn_ok F S hl hbody⟩
/-- with defaults: n values are written, the defaults behind the first j fill up -/
theorem Fn.makeD (n j : Nat) (F : FunD K x qual params body scope dvs [] f fd) (hm : mg x = some (.ref f)) (S : FnScope N ps scope) (hl : ∀ as S, sp as S → as.length = ps.length ∧ ∀ e ∈ as, ¬ e.isOwn) (hd : dvs ≠ []) (hn : n + (dvs.length - j) = ps.length) (hda : ∀ p H, Good T p H → EntsOk K p H (dvs.drop j) das)
    (hb : ∀ (Ta : Addr) (kV doc pm : Value) (an : Option Addr) (cdv ct : Value) (us its : List Value), us.length = n → its.length = dvs.length →
      ∃ k, bindArgs (PySem.W.fnOf x qual params body scope (.ref Ta) kV doc pm an cdv ct) ⟨us, []⟩ = seqItems? (.ref Ta) >>= k ∧ k (some its.toArray) = pure (ps.zip (us ++ its.drop j)))
    (hbody : ∀ (cdv : Value) (A : Around) (outer : List Env) (s : Shared) (H : Hp) (E : XK), Room k (A.deeper (envOfC qual scope s.heap.objs.size f cdv)) → ∀ as S, sp as S → Ex T (cX P w K mg base N qual scope f cdv A outer s H E) (entSt N as) body { nx := fun _ => S .none, rt := S }) :
    Fn T P w K mg base (k + 1) x sp das := by
  obtain ⟨ds, hv, hbi⟩ := F.binds1 (ps := ps) n j hd hn hb
  exact ⟨f, fd, ps, ds, dvs.drop j, hm, F.kp, hbi, hv, hda, fn_ok F S hl hbody⟩
end
/-- where a def stands -/
structure Dv (K : PySem.W.Frag) (mg : Str → Option Value) (d : He.DefD) : Prop where
  ex : ∃ fd : FuncData, mg d.name = some (.ref (He.fAd K d.at_)) ∧ FunD K d.name d.qual d.params d.body d.scope (d.dvs K) [] (He.fAd K d.at_) fd
section
variable {T : Addr → Prop} {P : Program} {w : World} {K : PySem.W.Frag} {mg : Str → Option Value} {base : Heap} {d : He.DefD} {params : Arguments} {x qual : Str} {scope : Scope} {body : List Stmt} {fd : FuncData} {N ps : List Str} {k : Nat} {sp : SpP}
/-- .. its code object told: for a def with generator expressions -/
theorem Fn.makeC (F : FunD K x qual params body scope [] [] (He.fAd K d.at_) fd) (hm : mg x = some (.ref (He.fAd K d.at_))) (S : FnScope N ps scope) (hl : ∀ as S, sp as S → as.length = ps.length ∧ ∀ e ∈ as, ¬ e.isOwn)
    (hb : ∀ (kV doc pm : Value) (an : Option Addr) (cdv ct : Value) (us : List Value), us.length = ps.length → bindArgs (PySem.W.fnOf x qual params body scope .none kV doc pm an cdv ct) ⟨us, []⟩ = pure (ps.zip us))
    (hbody : ∀ (A : Around) (outer : List Env) (s : Shared) (H : Hp) (E : XK), Room k (A.deeper (envOfC qual scope s.heap.objs.size (He.fAd K d.at_) (.ref (He.cT K d.at_).1))) → ∀ as S, sp as S → Ex T (cX P w K mg base N qual scope (He.fAd K d.at_) (.ref (He.cT K d.at_).1) A outer s H E) (entSt N as) body { nx := fun _ => S .none, rt := S }) :
    Fn T P w K mg base (k + 1) x sp [] := by
  refine ⟨He.fAd K d.at_, fd, ps, [], [], hm, F.kp, F.bindsN hb, .nil, fun _ _ _ => .nil, ?_⟩
  obtain ⟨oc, od, dV, kV, doc, pm, an, cdv, ct, osl, rfl, lk, hcd, _, _⟩ := F.ex
  obtain ⟨c, rfl⟩ := He.codeIn_ref hcd
  have ec : (He.cT K d.at_).1 = c := He.codeOf_eq lk rfl
  rw [ec] at hbody
  refine fn_of lk hcd S (fun vs H Q E h => ?_) (fun A outer s H vs Q E hr h => ?_)
  · obtain ⟨p, as, S', g, r, hs, _⟩ := h
    rw [r.length]
    exact (hl as S' hs).1
  · obtain ⟨p, as, S', g, r, hs, kk⟩ := h
    refine ⟨_, PSs.nox (X := cxOf CX0 P w K mg base N qual scope (He.fAd K d.at_) (.ref c) A outer s H E) pss_w, ?_⟩
    refine hbody A outer s H E hr as S' hs p.in_ H (L2.start N vs) _ g.in_ (env_start r (hl as S' hs).2) ⟨?_, ?_, fun _ _ _ _ _ z => z.elim, fun _ _ _ _ _ z => z.elim⟩
    · intro es' p' H' σ' st hS _
      exact kk H' .non .none (fun b y e _ => st.gr b y e (fun z => z)) .non hS
    · intro d v p' H' st hS rd
      exact kk H' v d (fun b y e _ => st.gr b y e (fun z => z)) (rd.mono (.weak fun a z => st.out a (in_out z))) hS
/-- the scope of a generator expression of such a def -/
theorem genS_of {f : Addr} {cdv : Value} {A : Around} {outer : List Env} {s : Shared} {H : Hp} {E : XK} {gs : Scope} {y : Str} (hk : gs.kind = .function) (hco : gs.isCoroutine = false) (hc : ∀ y ∈ gs.names, y.2 ≠ .cell) (h0 : gs.names.lookup (".0" : Str) = some .local) (hy : gs.names.lookup y = some .local)
    (hf : ∀ y ∈ gs.names, y.2 = .free → scope.names.lookup y.1 = some .cell) : GxR.GenS (cX P w K mg base N qual scope f cdv A outer s H E).env gs y :=
  ⟨hk, hco, hc, h0, hy, fun z hz e => cell_has (hf z hz e)⟩
end
end DL
end
section
set_option Elab.async false
set_option linter.all false
set_option autoImplicit false
set_option maxRecDepth 100000
set_option maxHeartbeats 2000000
/-! Walks that give out tuples: zip of two, of three, enumerate; lists and tuples in any mix. -/
namespace DL
open PySem PySem.Spec L2
open PyProof.Rows hiding St

/-! ### sources: a list (true) or a tuple (false) -/
def Sq (b : Bool) (K : PySem.W.Frag) (H : Hp) (a : Addr) (xs : List V) : Prop := if b = true then SqL K H a xs else SqT K H a xs
def isSeq (b : Bool) (h : Heap) (a : Addr) (its : Array Value) : Prop := if b = true then h.IsList a its else h.IsTuple a its
def isIter (b : Bool) (h : Heap) (it a : Addr) (i : Nat) : Prop := if b = true then h.IsListIter it a i else h.IsTupleIter it a i
def iterO (b : Bool) (a : Addr) : Obj := { cls := .type (if b = true then "list_iterator" else "tuple_iterator"), data := .fields #[.ref a, .int 0 0] }
section
variable {X : Cx} {pins : List (Addr × Obj)} {σ : St} {H : Hp} {s : Shared} {a it : Addr} {xs : List V} {h h' : Heap} {i : Nat} {its : Array Value}
theorem sq_seq (b : Bool) (I : Inv X pins σ H s) (q : Sq b X.K H a xs) : ∃ its : List Value, Vals xs its ∧ isSeq b s.heap a its.toArray := by
  cases b with
  | true =>
    obtain ⟨its, r, p, _⟩ := I.list (show SqL X.K H a xs from q)
    exact ⟨its, r, p.isList⟩
  | false =>
    obtain ⟨its, r, p, _⟩ := I.tuple (show SqT X.K H a xs from q)
    exact ⟨its, r, p⟩
theorem isSeq_at (b : Bool) (q : isSeq b h a its) (k : ∀ o, h.get? a = some o → h'.get? a = some o) : isSeq b h' a its := by
  cases b with
  | true => exact Heap.IsList.at (show h.IsList a its from q) k
  | false => exact Heap.IsTuple.at (show h.IsTuple a its from q) k
theorem isIter_at (b : Bool) (q : isIter b h it a i) (k : ∀ o, h.get? it = some o → h'.get? it = some o) : isIter b h' it a i := by
  cases b with
  | true => exact Heap.IsListIter.at (show h.IsListIter it a i from q) k
  | false => exact Heap.IsTupleIter.at (show h.IsTupleIter it a i from q) k
theorem isSeq_lt (b : Bool) (q : isSeq b h a its) : a < h.objs.size := by
  cases b with
  | true =>
    obtain ⟨o, e, _⟩ := (show h.IsList a its from q)
    exact Heap.lt_size e
  | false =>
    obtain ⟨o, e, _⟩ := (show h.IsTuple a its from q)
    exact Heap.lt_size e
theorem isIter_obj (b : Bool) (q : isIter b h it a i) : ∃ o, h.get? it = some o ∧ ∀ v, o.data ≠ .cell v := by
  cases b with
  | true =>
    obtain ⟨o, e, _, d⟩ := (show h.IsListIter it a i from q)
    exact ⟨o, e, fun v z => by rw [d] at z; cases z⟩
  | false =>
    obtain ⟨o, e, _, d⟩ := (show h.IsTupleIter it a i from q)
    exact ⟨o, e, fun v z => by rw [d] at z; cases z⟩
theorem isIter_new (b : Bool) (e : h.get? it = some (iterO b a)) : isIter b h it a 0 := by
  cases b with
  | true => exact ⟨_, e, rfl, rfl⟩
  | false => exact ⟨_, e, rfl, rfl⟩
end
def BegH (b : Bool) (a : Addr) (its : Array Value) : Heap → Prop := fun h => isSeq b h a its
theorem begins (b : Bool) (a : Addr) (its : Array Value) : Begins (.ref a) (iterO b a) (BegH b a its) := by
  cases b with
  | true => exact begins_list a its
  | false => exact begins_tuple a its
/-- the state of an iterator over it -/
def DSt (b : Bool) (it a : Addr) (xs : List V) : Nat → Heap → Prop := fun i h => isIter b h it a i ∧ ∃ its : List Value, Vals xs its ∧ isSeq b h a its.toArray
def DP (xs : List V) : Nat → Value → Prop := fun i v => ∃ x, xs[i]? = some x ∧ RelV x v
theorem draws {prog : Program} {w : World} {A : Around} (hh : A.handled = none) (b : Bool) (it a : Addr) (hne : a ≠ it) (xs : List V) : Draws prog w A it [it, a] xs.length (DP xs) (DSt b it a xs) where
  live := fun i h st => by
    obtain ⟨o, e, _⟩ := isIter_obj b st.1
    exact ⟨o, e⟩
  frame := fun i h h' st k => by
    obtain ⟨h1, its, r, h2⟩ := st
    exact ⟨isIter_at b h1 fun o e => k it (by simp) o e, its, r, isSeq_at b h2 fun o e => k a (by simp) o e⟩
  item := fun i s Q E hi st hQ => by
    obtain ⟨h1, its, r, h2⟩ := st
    have hl := r.length
    have D : Draws prog w A it [it, a] its.toArray.size (fun i v => its.toArray[i]? = some v) (fun i h => isIter b h it a i ∧ isSeq b h a its.toArray) := by
      cases b with
      | true => exact Draws.list hh it a hne its.toArray
      | false => exact Draws.tuple hh it a hne its.toArray
    refine D.item i s Q E (by rw [List.size_toArray]; omega) ⟨h1, h2⟩ fun x h' tk hx st' sb => ?_
    have hx' : its[i]? = some x := by simpa using hx
    have hi' : i < xs.length := hi
    obtain ⟨u, hu, ru⟩ := r.get (List.getElem?_eq_getElem hi')
    rw [hu] at hx'
    cases hx'
    exact hQ x h' tk ⟨_, List.getElem?_eq_getElem hi', ru⟩ ⟨st'.1, its, r, st'.2⟩ sb
  done := fun s Q E st hE => by
    obtain ⟨h1, its, r, h2⟩ := st
    have hl := r.length
    have D : Draws prog w A it [it, a] its.toArray.size (fun i v => its.toArray[i]? = some v) (fun i h => isIter b h it a i ∧ isSeq b h a its.toArray) := by
      cases b with
      | true => exact Draws.list hh it a hne its.toArray
      | false => exact Draws.tuple hh it a hne its.toArray
    refine D.done s Q E ⟨?_, h2⟩ hE
    have e : its.toArray.size = xs.length := by rw [List.size_toArray]; omega
    rw [e]
    exact h1

/-! ### a walk by GoesN as one of the hand layer -/
def Jt (SH : Hp → Prop) (n : Nat) (f : Nat → List V → Prop) : It :=
  ⟨fun i H => SH H ∧ i < n, fun i H v H' => ∃ T vs, v = .ref T ∧ H T = none ∧ H' = upd H T (.tup vs) ∧ f i vs, fun i H => SH H ∧ n = i⟩
theorem turnN {P : Program} {w : World} {K : PySem.W.Frag} {tg : Expr} {I : Addr} {fp wr nw : List Addr} {n : Nat} {Pv : Nat → List Value → Prop} {S : Nat → Heap → Prop} {SH : Hp → Prop} {SR : Heap → Prop} {f : Nat → List V → Prop}
    (hG : ∀ A : Around, A.handled = none → GoesN P w A tg I fp wr n (fun i h₀ v h => ∃ T vals, v = .ref T ∧ h₀.objs.size ≤ T ∧ Pv i vals ∧ h.IsTuple T vals.toArray) S)
    (hI : I ∈ nw) (hwr : ∀ b ∈ wr, b ∈ nw) (hfr : ∀ i h h', S i h → (∀ b ∈ nw, ∀ o, h.get? b = some o → h'.get? b = some o) → SR h' → S i h') (hob : ∀ i h, S i h → ∀ b ∈ nw, ∃ o, h.get? b = some o ∧ ∀ v, o.data ≠ .cell v)
    (hSR : ∀ (X : Cx) (pins : List (Addr × Obj)) (s : Shared) (σ : St) (H : Hp), X.K = K → Inv X pins σ H s → SH H → SR s.heap) (hP : ∀ i vals, i < n → Pv i vals → ∃ vs, Vals vs vals ∧ f i vs ∧ vs.length ≤ sizeLine)
    (hsl : ∀ i h h', S i h → (∀ b ∈ nw, ∀ o, h.get? b = some o → h'.get? b = some o) → ∀ (A : Around) (s : Shared) (Q : Value → Shared → Prop) (E : Value → Shared → Prop), s.heap = h' → Q (.ref I) s → wpAny (model P w) A (pyIter (.ref I)) Q E s) :
    Turn P w K tg (Jt SH n f) nw I (fun i h => ∃ h0, S i h0 ∧ ∀ b ∈ nw, ∀ o, h0.get? b = some o → h.get? b = some o) where
  mem := hI
  obj := fun i h ⟨h0, st, k⟩ b hb => by
    obtain ⟨o, e, d⟩ := hob i h0 st b hb
    exact ⟨o, k b hb o e, d⟩
  keep := fun i h h' ⟨h0, st, k⟩ k' => ⟨h0, st, fun b hb o e => k' b hb o (k b hb o e)⟩
  item := by
    intro X hX hw hK hc i pins s σ H E I0 hf st hg
    subst hX hw
    obtain ⟨h0, st, k⟩ := st
    obtain ⟨hs, hi⟩ := hg
    have stS := hfr i h0 s.heap st k (hSR X pins s σ H hK I0 hs)
    refine wpAny_mono ((hG X.A (I0.ok.hd hc)).goes i s (fun v s2 => ∃ T vals vs h' tk, v = .ref T ∧ s2 = { s with heap := h', toks := tk } ∧ Vals vs vals ∧ f i vs ∧ vs.length ≤ sizeLine ∧ s.heap.objs.size ≤ T ∧ h'.IsTuple T vals.toArray ∧ S (i + 1) h' ∧ (∀ b o, b ∉ wr → s.heap.get? b = some o → h'.get? b = some o)) E hi stS fun v h' tk ⟨T, vals, ev, hT, hp, ht⟩ st' hk _ => ?_) (fun r s1 ⟨v, e, h⟩ => ⟨v, e, wpAny_mono h (fun _ s2 q => ?_) fun _ _ z => z⟩) fun _ _ z => z
    · obtain ⟨vs, h1, h2, h3⟩ := hP i vals hi hp
      exact ⟨T, vals, vs, h', tk, ev, rfl, h1, h2, h3, hT, ht, st', hk⟩
    · obtain ⟨T, vals, vs, h', tk, ev, es2, h1, h2, h3, hT, ht, st', hk⟩ := q
      subst ev es2
      refine ⟨.ref T, upd H T (.tup vs), I0.turnedNew (t' := tk) (ch := nw) (fun b o hb e => hk b o (fun z => hb (hwr b z)) e) hf hT ⟨h3, vals, h1, ht⟩, rfl, ⟨T, vs, rfl, I0.hok.fresh hT, rfl, h2⟩, ⟨h', st', fun _ _ _ e => e⟩, fun b hb => ?_⟩
      obtain ⟨o, e, _⟩ := hob i h0 st b hb
      have hlt : b < s.heap.objs.size := Heap.lt_size (k b hb o e)
      rw [upd_ne (Nat.ne_of_lt (Nat.lt_of_lt_of_le hlt hT))]
      exact (hf b hb).1
  done := by
    intro X hX hw hK hc i pins s σ H E I0 hf st hg
    subst hX hw
    obtain ⟨h0, st, k⟩ := st
    obtain ⟨hs, hi⟩ := hg
    subst hi
    have stS := hfr n h0 s.heap st k (hSR X pins s σ H hK I0 hs)
    exact (hG X.A (I0.ok.hd hc)).stops s (fun s1 => Inv X pins σ H s1) E stS fun h' tk hk _ => I0.turnedL (t' := tk) (ch := nw) (fun b o hb e => hk b o (fun z => hb (hwr b z)) e) hf
  self := fun A i s Q E ⟨h0, st, k⟩ hQ => hsl i h0 s.heap st k A s Q E rfl hQ
/-! ### zip of two, of three -/
theorem isTup2_at {h h' : Heap} {T : Addr} {a b : Value} (q : IsTupOf2 h T a b) (k : ∀ o, h.get? T = some o → h'.get? T = some o) : IsTupOf2 h' T a b := k _ q
theorem vals2 {x y : V} {u v : Value} (h1 : RelV x u) (h2 : RelV y v) : Vals [x, y] [u, v] := .cons h1 (.cons h2 .nil)
def f2 (xs ys : List V) : Nat → List V → Prop := fun i vs => ∃ x y, xs[i]? = some x ∧ ys[i]? = some y ∧ vs = [x, y]
def f3 (xs ys zs : List V) : Nat → List V → Prop := fun i vs => ∃ x y z, xs[i]? = some x ∧ ys[i]? = some y ∧ zs[i]? = some z ∧ vs = [x, y, z]
def fE (xs : List V) : Nat → List V → Prop := fun i vs => ∃ x, xs[i]? = some x ∧ vs = [.int (i : Int), x]
def SR1 (b : Bool) (a : Addr) (xs : List V) : Heap → Prop := fun h => ∃ its : List Value, Vals xs its ∧ isSeq b h a its.toArray
theorem turn_zip2 {P : Program} {w : World} {K : PySem.W.Frag} {elts : List Expr} {kk : Nat} {tpos : Pos} (b1 b2 : Bool) (a1 a2 : Addr) (xs ys : List V) {N : Nat} (h1 : a1 < N) (h2 : a2 < N) :
    Turn P w K (.Tuple elts kk tpos) (Jt (fun H => Sq b1 K H a1 xs ∧ Sq b2 K H a2 ys) (min xs.length ys.length) (f2 xs ys)) [N + 4, N + 2, N + 3, N, N + 1] (N + 4)
      (fun i h => ∃ h0, (IsZip h0 (N + 4) (N + 2) (N + 3) .none ∧ IsTupOf2 h0 (N + 2) (.ref N) (.ref (N + 1)) ∧ (∃ a1 a2, IsTupOf2 h0 (N + 3) a1 a2) ∧ DSt b1 N a1 xs i h0 ∧ DSt b2 (N + 1) a2 ys i h0) ∧ ∀ b ∈ [N + 4, N + 2, N + 3, N, N + 1], ∀ o, h0.get? b = some o → h.get? b = some o) :=
  turnN (fp := (N + 4) :: (N + 2) :: (N + 3) :: ([N, a1] ++ [N + 1, a2])) (wr := [N + 4, N + 3, N, N + 1]) (Pv := fun i vals => ∃ x y, vals = [x, y] ∧ DP xs i x ∧ DP ys i y) (SR := fun h => SR1 b1 a1 xs h ∧ SR1 b2 a2 ys h)
    (fun A hh => (GoesN.zip2 (zip_sep2 (N := N) (fp1 := [a1]) (fp2 := [a2]) (fun b hb => by rw [List.mem_singleton.mp hb]; exact h1) (fun b hb => by rw [List.mem_singleton.mp hb]; exact h2))
      (draws (A := A.in1) hh b1 N a1 (Nat.ne_of_lt h1) xs) (draws (A := A.in1) hh b2 (N + 1) a2 (Nat.ne_of_lt (Nat.lt_succ_of_lt h2)) ys)).mono fun i h₀ v h _ ⟨T, x, y, ev, hT, hx, hy, ht⟩ => ⟨T, [x, y], ev, hT, ⟨x, y, rfl, hx, hy⟩, ht⟩)
    (by simp) (fun b hb => by
      simp only [List.mem_cons, List.not_mem_nil, or_false] at hb ⊢
      rcases hb with z | z | z | z <;> simp [z])
    (fun i h h' st k sr => by
      obtain ⟨z, t, ⟨u, v, o⟩, d1, d2⟩ := st
      exact ⟨k _ (by simp) _ z, k _ (by simp) _ t, ⟨u, v, k _ (by simp) _ o⟩, ⟨isIter_at b1 d1.1 fun o e => k _ (by simp) o e, sr.1⟩, ⟨isIter_at b2 d2.1 fun o e => k _ (by simp) o e, sr.2⟩⟩)
    (fun i h st b hb => by
      obtain ⟨z, t, ⟨u, v, o⟩, d1, d2⟩ := st
      have e' : b = N + 4 ∨ b = N + 2 ∨ b = N + 3 ∨ b = N ∨ b = N + 1 := by simpa using hb
      rcases e' with q | q | q | q | q
      · rw [q]; exact ⟨_, z, fun v q => nomatch q⟩
      · rw [q]; exact ⟨_, t, fun v q => nomatch q⟩
      · rw [q]; exact ⟨_, o, fun v q => nomatch q⟩
      · rw [q]; exact isIter_obj b1 d1.1
      · rw [q]; exact isIter_obj b2 d2.1)
    (fun X pins s σ H hK I hs => by
      subst hK
      exact ⟨sq_seq b1 I hs.1, sq_seq b2 I hs.2⟩)
    (fun i vals _ ⟨x, y, e, ⟨x', hx, rx⟩, ⟨y', hy, ry⟩⟩ => ⟨[x', y'], by rw [e]; exact vals2 rx ry, ⟨x', y', hx, hy, rfl⟩, (by show 2 ≤ sizeLine; decide)⟩)
    (fun i h h' st k A s Q E es hQ => by
      subst es
      exact wpAny_pyIter_zip (k _ (by simp) _ st.1) hQ)
theorem turn_zip3 {P : Program} {w : World} {K : PySem.W.Frag} {elts : List Expr} {kk : Nat} {tpos : Pos} (b1 b2 b3 : Bool) (a1 a2 a3 : Addr) (xs ys zs : List V) {N : Nat} (h1 : a1 < N) (h2 : a2 < N) (h3 : a3 < N) :
    Turn P w K (.Tuple elts kk tpos) (Jt (fun H => Sq b1 K H a1 xs ∧ Sq b2 K H a2 ys ∧ Sq b3 K H a3 zs) (min (min xs.length ys.length) zs.length) (f3 xs ys zs)) [N + 5, N + 3, N + 4, N, N + 1, N + 2] (N + 5)
      (fun i h => ∃ h0, (IsZip h0 (N + 5) (N + 3) (N + 4) .none ∧ IsTupOf3 h0 (N + 3) (.ref N) (.ref (N + 1)) (.ref (N + 2)) ∧ (∃ a1 a2 a3, IsTupOf3 h0 (N + 4) a1 a2 a3) ∧ DSt b1 N a1 xs i h0 ∧ DSt b2 (N + 1) a2 ys i h0 ∧ DSt b3 (N + 2) a3 zs i h0) ∧ ∀ b ∈ [N + 5, N + 3, N + 4, N, N + 1, N + 2], ∀ o, h0.get? b = some o → h.get? b = some o) :=
  turnN (fp := (N + 5) :: (N + 3) :: (N + 4) :: ([N, a1] ++ [N + 1, a2] ++ [N + 2, a3])) (wr := [N + 5, N + 4, N, N + 1, N + 2]) (Pv := fun i vals => ∃ x y u, vals = [x, y, u] ∧ DP xs i x ∧ DP ys i y ∧ DP zs i u) (SR := fun h => SR1 b1 a1 xs h ∧ SR1 b2 a2 ys h ∧ SR1 b3 a3 zs h)
    (fun A hh => (GoesN.zip3 (zip_sep3 (N := N) (fp1 := [a1]) (fp2 := [a2]) (fp3 := [a3]) (fun b hb => by rw [List.mem_singleton.mp hb]; exact h1) (fun b hb => by rw [List.mem_singleton.mp hb]; exact h2) (fun b hb => by rw [List.mem_singleton.mp hb]; exact h3))
      (draws (A := A.in1) hh b1 N a1 (Nat.ne_of_lt h1) xs) (draws (A := A.in1) hh b2 (N + 1) a2 (Nat.ne_of_lt (Nat.lt_succ_of_lt h2)) ys) (draws (A := A.in1) hh b3 (N + 2) a3 (Nat.ne_of_lt (Nat.lt_succ_of_lt (Nat.lt_succ_of_lt h3))) zs)).mono fun i h₀ v h _ ⟨T, x, y, u, ev, hT, hx, hy, hu, ht⟩ => ⟨T, [x, y, u], ev, hT, ⟨x, y, u, rfl, hx, hy, hu⟩, ht⟩)
    (by simp) (fun b hb => by
      simp only [List.mem_cons, List.not_mem_nil, or_false] at hb ⊢
      rcases hb with z | z | z | z | z <;> simp [z])
    (fun i h h' st k sr => by
      obtain ⟨z, t, ⟨u, v, x, o⟩, d1, d2, d3⟩ := st
      exact ⟨k _ (by simp) _ z, k _ (by simp) _ t, ⟨u, v, x, k _ (by simp) _ o⟩, ⟨isIter_at b1 d1.1 fun o e => k _ (by simp) o e, sr.1⟩, ⟨isIter_at b2 d2.1 fun o e => k _ (by simp) o e, sr.2.1⟩, ⟨isIter_at b3 d3.1 fun o e => k _ (by simp) o e, sr.2.2⟩⟩)
    (fun i h st b hb => by
      obtain ⟨z, t, ⟨u, v, x, o⟩, d1, d2, d3⟩ := st
      have e' : b = N + 5 ∨ b = N + 3 ∨ b = N + 4 ∨ b = N ∨ b = N + 1 ∨ b = N + 2 := by simpa using hb
      rcases e' with q | q | q | q | q | q
      · rw [q]; exact ⟨_, z, fun v q => nomatch q⟩
      · rw [q]; exact ⟨_, t, fun v q => nomatch q⟩
      · rw [q]; exact ⟨_, o, fun v q => nomatch q⟩
      · rw [q]; exact isIter_obj b1 d1.1
      · rw [q]; exact isIter_obj b2 d2.1
      · rw [q]; exact isIter_obj b3 d3.1)
    (fun X pins s σ H hK I hs => by
      subst hK
      exact ⟨sq_seq b1 I hs.1, sq_seq b2 I hs.2.1, sq_seq b3 I hs.2.2⟩)
    (fun i vals _ ⟨x, y, u, e, ⟨x', hx, rx⟩, ⟨y', hy, ry⟩, ⟨u', hu, ru⟩⟩ => ⟨[x', y', u'], by rw [e]; exact .cons rx (vals2 ry ru), ⟨x', y', u', hx, hy, hu, rfl⟩, (by show 3 ≤ sizeLine; decide)⟩)
    (fun i h h' st k A s Q E es hQ => by
      subst es
      exact wpAny_pyIter_zip (k _ (by simp) _ st.1) hQ)
theorem turn_enumE {P : Program} {w : World} {K : PySem.W.Frag} {elts : List Expr} {kk : Nat} {tpos : Pos} (b1 : Bool) (a1 : Addr) (xs : List V) {N : Nat} (h1 : a1 < N) :
    Turn P w K (.Tuple elts kk tpos) (Jt (fun H => Sq b1 K H a1 xs) xs.length (fE xs)) [N + 1, N] (N + 1)
      (fun i h => ∃ h0, ((∃ old, IsEnum h0 (N + 1) N (0 + (i : Int)) old) ∧ DSt b1 N a1 xs i h0) ∧ ∀ b ∈ [N + 1, N], ∀ o, h0.get? b = some o → h.get? b = some o) :=
  turnN (fp := (N + 1) :: [N, a1]) (wr := [N + 1, N]) (Pv := fun i vals => ∃ t x, vals = [.int (0 + (i : Int)) t, x] ∧ DP xs i x) (SR := SR1 b1 a1 xs)
    (fun A hh => (GoesN.enumFrom (0 : Int) (draws (A := A.in1) hh b1 N a1 (Nat.ne_of_lt h1) xs) (N + 1) (Nat.succ_ne_self N) (by
      intro z
      rcases List.mem_cons.mp z with z | z
      · exact absurd z (Nat.succ_ne_self N)
      · have e := List.mem_singleton.mp z
        exact absurd h1 (by rw [← e]; exact Nat.not_lt.mpr (Nat.le_succ N))) List.mem_cons_self).mono fun i h₀ v h _ ⟨T, t, x, ev, hT, hx, ht⟩ => ⟨T, [.int (0 + (i : Int)) t, x], ev, hT, ⟨t, x, rfl, hx⟩, ht⟩)
    (by simp) (fun b hb => hb)
    (fun i h h' st k sr => by
      obtain ⟨⟨old, e⟩, d1⟩ := st
      exact ⟨⟨old, k _ (by simp) _ e⟩, ⟨isIter_at b1 d1.1 fun o e => k _ (by simp) o e, sr⟩⟩)
    (fun i h st b hb => by
      obtain ⟨⟨old, e⟩, d1⟩ := st
      have e' : b = N + 1 ∨ b = N := by simpa using hb
      rcases e' with q | q
      · rw [q]; exact ⟨_, e, fun v q => nomatch q⟩
      · rw [q]; exact isIter_obj b1 d1.1)
    (fun X pins s σ H hK I hs => by
      subst hK
      exact sq_seq b1 I hs)
    (fun i vals _ ⟨t, x, e, ⟨x', hx, rx⟩⟩ => ⟨[.int (i : Int), x'], by rw [e]; exact vals2 ⟨t, by rw [Int.zero_add]⟩ rx, ⟨x', hx, rfl⟩, (by show 2 ≤ sizeLine; decide)⟩)
    (fun i h h' st k A s Q E es hQ => by
      subst es
      obtain ⟨old, e⟩ := st.1
      exact wpAny_pyIter_enum (k _ (by simp) _ e) hQ)
end DL
end
section
set_option Elab.async false
set_option linter.all false
set_option autoImplicit false
set_option maxRecDepth 100000
set_option maxHeartbeats 2000000
/-! The walks zip(..), enumerate(..) of plain data. -/
namespace DL
open PySem PySem.Spec L2
open PyProof.Rows hiding St

/-! ### enumerate(v) begins -/
theorem meets_enum1 {v : Value} {o : Obj} {G : Heap → Prop} (B : Begins v o G) : Meets (Builtin.«enumerate.__new__» ⟨[.type "enumerate", v], []⟩) (fun _ R s => G s.heap ∧
    R (.ok (.ret (.ref (s.heap.push o).objs.size))) { s with heap := (s.heap.push o).push { cls := .type "enumerate", data := .fields #[.none, .bool false, .ref s.heap.objs.size, rawInt 0, .none, .none] } }) :=
  .of_wp fun prog w A R s h => by
    obtain ⟨hp, ge, dr, tk, os⟩ := s
    obtain ⟨hG, h⟩ := h
    have hsub := sub_enumerate
    have it1 : ∀ {A' : Around} {E : Value → Shared → Prop} {Q : Value → Shared → Prop}, Q (.ref hp.objs.size) ⟨hp.push o, ge, dr, tk, os⟩ → wpAny (model prog w) A' (pyIter v) Q E ⟨hp, ge, dr, tk, os⟩ :=
      fun q => B.iter prog w _ _ ⟨hp, ge, dr, tk, os⟩ _ hG q
    wp_walk using it1
    refine wpAny_stack_any fun st => wpAny_pure ?_
    split
    · rename_i c _ _ _ _ _
      cases (c == Value.type "enumerate") <;> (wp_walk using it1; exact ⟨_, rfl, h⟩)
    · wp_walk using it1
      exact ⟨_, rfl, h⟩
theorem enum_begins1 {prog : Program} {w : World} {A : Around} {E : Value → Shared → Prop} {s : Shared} {v : Value} {o : Obj} {G : Heap → Prop} {Q : Value → Shared → Prop} (B : Begins v o G) (hG : G s.heap)
    (h : ∀ h', IsEnum h' (s.heap.objs.size + 1) s.heap.objs.size 0 .none → h'.get? s.heap.objs.size = some o → (∀ b u, s.heap.get? b = some u → h'.get? b = some u) → Q (.ref (s.heap.objs.size + 1)) { s with heap := h' }) :
    wpAny (model prog w) A (call (.type "enumerate") [v]) Q E s := by
  refine callType_new F.called_enumerate (by decide) (F.typeCall_enumerate_1 _) (F.newCall_enumerate_1 _) (fun obj => F.args_object_init_2 obj _) F.entry_enumerate_new (meets_enum1 B) ⟨hG, ?_⟩
  have hz : (s.heap.push o).objs.size = s.heap.objs.size + 1 := by rw [Heap.size_push]
  have en : IsEnum ((s.heap.push o).push { cls := .type "enumerate", data := .fields #[.none, .bool false, .ref s.heap.objs.size, rawInt 0, .none, .none] }) (s.heap.objs.size + 1) s.heap.objs.size 0 .none := by
    have q := Heap.get?_push_size (s.heap.push o) (o := { cls := .type "enumerate", data := .fields #[.none, .bool false, .ref s.heap.objs.size, rawInt 0, .none, .none] }) rfl
    rw [hz] at q
    exact q
  show _ ∧ _
  rw [hz]
  exact ⟨⟨_, en, rfl⟩, h _ en (Heap.get?_push_of_some _ (Heap.get?_push_size _ B.free)) fun b u e => Heap.get?_push_of_some _ (Heap.get?_push_of_some _ e)⟩

/-! ### the readings -/
def seqD (b : Bool) (ds : List D) : D := if b = true then .list ds else .tuple ds
def SrcAt (b : Bool) (K : PySem.W.Frag) (O : Addr → Prop) (H : Hp) (a : Addr) (xs : List V) : Prop := if b = true then LstAt O H a xs else TupAt K O H a xs
section
variable {K : PySem.W.Frag} {O O' : Addr → Prop} {H H' : Hp} {a : Addr} {xs : List V} {v : V} {ds : List D}
theorem SrcAt.sq (b : Bool) (h : SrcAt b K O H a xs) : Sq b K H a xs := by
  cases b with
  | true => exact LstAt.sq (show LstAt O H a xs from h)
  | false => exact TupAt.sq (show TupAt K O H a xs from h)
theorem SrcAt.mono (b : Bool) (m : Mono O H O' H') (h : SrcAt b K O H a xs) : SrcAt b K O' H' a xs := by
  cases b with
  | true => exact LstAt.mono m (show LstAt O H a xs from h)
  | false => exact TupAt.mono m (show TupAt K O H a xs from h)
theorem Rp.src (b : Bool) (h : Rp K O H v (seqD b ds)) : ∃ a xs, v = .ref a ∧ SrcAt b K O H a xs ∧ Rps K O H xs ds := by
  cases b with
  | true => exact Rp.lst_v (show Rp K O H v (.list ds) from h)
  | false => exact Rp.tup_v (show Rp K O H v (.tuple ds) from h)
end
def iZ2 (K : PySem.W.Frag) (b1 b2 : Bool) (ta : TA) : TI := fun σ H R => ta σ H fun vs H1 => ∃ a1 a2 xs ys, vs = [.ref a1, .ref a2] ∧ Sq b1 K H1 a1 xs ∧ Sq b2 K H1 a2 ys ∧ R (Jt (fun H => Sq b1 K H a1 xs ∧ Sq b2 K H a2 ys) (min xs.length ys.length) (f2 xs ys)) H1
def iZ3 (K : PySem.W.Frag) (b1 b2 b3 : Bool) (ta : TA) : TI := fun σ H R => ta σ H fun vs H1 => ∃ a1 a2 a3 xs ys zs, vs = [.ref a1, .ref a2, .ref a3] ∧ Sq b1 K H1 a1 xs ∧ Sq b2 K H1 a2 ys ∧ Sq b3 K H1 a3 zs ∧ R (Jt (fun H => Sq b1 K H a1 xs ∧ Sq b2 K H a2 ys ∧ Sq b3 K H a3 zs) (min (min xs.length ys.length) zs.length) (f3 xs ys zs)) H1
def iEn (K : PySem.W.Frag) (b1 : Bool) (ta : TA) : TI := fun σ H R => ta σ H fun vs H1 => ∃ a1 xs, vs = [.ref a1] ∧ Sq b1 K H1 a1 xs ∧ R (Jt (fun H => Sq b1 K H a1 xs) xs.length (fE xs)) H1
theorem fresh_of {X : Cx} {pins : List (Addr × Obj)} {σ : St} {H : Hp} {s : Shared} (I : Inv X pins σ H s) {l : List Addr} (h : ∀ c ∈ l, s.heap.objs.size ≤ c) : ∀ c ∈ l, FpOk X pins H c := fun c hc => I.fpOk (h c hc) (I.hok.fresh (h c hc))
section
variable {X : Cx} {e e2 e3 : Expr} {ta : TA} {p pos tpos : Pos} {elts : List Expr} {kk : Nat}
theorem pi_zip2 (b1 b2 : Bool) (hg : Gl X "zip") (hm : X.mg "zip" = none) (ha : PA X [e, e2] ta) (hs : starEach [e, e2] X.env = (false, eval e X.env) :: starEach [e2] X.env := by rfl) (hpl : (backTo pos (starEach [e2] X.env)).any (·.1) = false := by rfl) :
    PI X (.Tuple elts kk tpos) (.Call (.Name "zip" p) [e, e2] [] pos) (iZ2 X.K b1 b2 ta) := by
  refine ⟨fun pins s σ H R I h => Call_ (ld_blt I hg hm PyProof.Rows.boot_zip (PyProof.Rows.callWith_type1 (thn (ha.run pos pins s σ H _ I h) fun us s1 ⟨vs, H1, I1, r1, q1⟩ => ?_) hs hpl))⟩
  obtain ⟨a1, a2, xs, ys, rfl, sx, sy, q⟩ := q1
  cases r1 with
  | cons r rr =>
    cases rr with
    | cons r' rr =>
      cases rr
      cases r
      cases r'
      obtain ⟨its1, rv1, p1⟩ := sq_seq b1 I1 sx
      obtain ⟨its2, rv2, p2⟩ := sq_seq b2 I1 sy
      refine zip_begins2 (begins b1 a1 its1.toArray) (begins b2 a2 its2.toArray) p1 p2 fun h' z t o i1 i2 sz hk => wpAny_pyIter_zip z ?_
      have I2 : Inv X pins σ H1 { s1 with heap := h' } := I1.kept (t' := s1.toks) hk
      exact ⟨s1.heap.objs.size + 4, _, _, _, H1, rfl, I2, turn_zip2 b1 b2 a1 a2 xs ys (isSeq_lt b1 p1) (isSeq_lt b2 p2), ⟨h', ⟨z, t, ⟨_, _, o⟩, ⟨isIter_new b1 i1, its1, rv1, isSeq_at b1 p1 (hk a1)⟩, ⟨isIter_new b2 i2, its2, rv2, isSeq_at b2 p2 (hk a2)⟩⟩, fun _ _ _ e => e⟩,
        fresh_of I1 (fun c hc => by
          simp only [List.mem_cons, List.not_mem_nil, or_false] at hc
          rcases hc with z | z | z | z | z <;> rw [z] <;> first | exact Nat.le_add_right _ _ | exact Nat.le_refl _), q⟩
theorem pi_zip3 (b1 b2 b3 : Bool) (hg : Gl X "zip") (hm : X.mg "zip" = none) (ha : PA X [e, e2, e3] ta) (hs : starEach [e, e2, e3] X.env = (false, eval e X.env) :: starEach [e2, e3] X.env := by rfl) (hpl : (backTo pos (starEach [e2, e3] X.env)).any (·.1) = false := by rfl) :
    PI X (.Tuple elts kk tpos) (.Call (.Name "zip" p) [e, e2, e3] [] pos) (iZ3 X.K b1 b2 b3 ta) := by
  refine ⟨fun pins s σ H R I h => Call_ (ld_blt I hg hm PyProof.Rows.boot_zip (PyProof.Rows.callWith_type1 (thn (ha.run pos pins s σ H _ I h) fun us s1 ⟨vs, H1, I1, r1, q1⟩ => ?_) hs hpl))⟩
  obtain ⟨a1, a2, a3, xs, ys, zs, rfl, sx, sy, sz, q⟩ := q1
  cases r1 with
  | cons r rr =>
    cases rr with
    | cons r' rr =>
      cases rr with
      | cons r'' rr =>
        cases rr
        cases r
        cases r'
        cases r''
        obtain ⟨its1, rv1, p1⟩ := sq_seq b1 I1 sx
        obtain ⟨its2, rv2, p2⟩ := sq_seq b2 I1 sy
        obtain ⟨its3, rv3, p3⟩ := sq_seq b3 I1 sz
        refine zip_begins3 (begins b1 a1 its1.toArray) (begins b2 a2 its2.toArray) (begins b3 a3 its3.toArray) p1 p2 p3 fun h' z t o i1 i2 i3 sz hk => wpAny_pyIter_zip z ?_
        have I2 : Inv X pins σ H1 { s1 with heap := h' } := I1.kept (t' := s1.toks) hk
        exact ⟨s1.heap.objs.size + 5, _, _, _, H1, rfl, I2, turn_zip3 b1 b2 b3 a1 a2 a3 xs ys zs (isSeq_lt b1 p1) (isSeq_lt b2 p2) (isSeq_lt b3 p3), ⟨h', ⟨z, t, ⟨_, _, _, o⟩, ⟨isIter_new b1 i1, its1, rv1, isSeq_at b1 p1 (hk a1)⟩, ⟨isIter_new b2 i2, its2, rv2, isSeq_at b2 p2 (hk a2)⟩, ⟨isIter_new b3 i3, its3, rv3, isSeq_at b3 p3 (hk a3)⟩⟩, fun _ _ _ e => e⟩,
          fresh_of I1 (fun c hc => by
            simp only [List.mem_cons, List.not_mem_nil, or_false] at hc
            rcases hc with z | z | z | z | z | z <;> rw [z] <;> first | exact Nat.le_add_right _ _ | exact Nat.le_refl _), q⟩
theorem pi_enumE (b1 : Bool) (hg : Gl X "enumerate") (hm : X.mg "enumerate" = none) (ha : PA X [e] ta) (hs : starEach [e] X.env = [(false, eval e X.env)] := by rfl) :
    PI X (.Tuple elts kk tpos) (.Call (.Name "enumerate" p) [e] [] pos) (iEn X.K b1 ta) := by
  refine ⟨fun pins s σ H R I h => Call_ (ld_blt I hg hm boot_enumerate (PyProof.Rows.callWith_type1 (thn (ha.run pos pins s σ H _ I h) fun us s1 ⟨vs, H1, I1, r1, q1⟩ => ?_) hs rfl))⟩
  obtain ⟨a1, xs, rfl, sx, q⟩ := q1
  cases r1 with
  | cons r rr =>
    cases rr
    cases r
    obtain ⟨its1, rv1, p1⟩ := sq_seq b1 I1 sx
    refine enum_begins1 (begins b1 a1 its1.toArray) p1 fun h' z i1 hk => wpAny_pyIter_enum z ?_
    have I2 : Inv X pins σ H1 { s1 with heap := h' } := I1.kept (t' := s1.toks) hk
    exact ⟨s1.heap.objs.size + 1, _, _, _, H1, rfl, I2, turn_enumE b1 a1 xs (isSeq_lt b1 p1), ⟨h', ⟨⟨.none, z⟩, ⟨isIter_new b1 i1, its1, rv1, isSeq_at b1 p1 (hk a1)⟩⟩, fun _ _ _ e => e⟩,
      fresh_of I1 (fun c hc => by
        simp only [List.mem_cons, List.not_mem_nil, or_false] at hc
        rcases hc with z | z <;> rw [z] <;> first | exact Nat.le_add_right _ _ | exact Nat.le_refl _), q⟩
end

/-! ### the walks of data -/
theorem zip_at {α β : Type} {l : List α} {m : List β} {i : Nat} {a : α} {b : β} (h1 : l[i]? = some a) (h2 : m[i]? = some b) : (l.zip m)[i]? = some (a, b) := List.getElem?_zip_eq_some.mpr ⟨h1, h2⟩
def zipD2 (ds fs : List D) : List D := (ds.zip fs).map fun q => .tuple [q.1, q.2]
def zipD3 (ds fs gs : List D) : List D := (ds.zip (fs.zip gs)).map fun q => .tuple [q.1, q.2.1, q.2.2]
def enumD (ds : List D) : List D := ds.zipIdx.map fun q => .tuple [.int (q.2 : Int), q.1]
section
variable {T : Addr → Prop} {X : Cx} {es : List Ent} {e e2 e3 : Expr} {p pos tpos : Pos} {elts : List Expr} {kk : Nat} {ds fs gs : List D}
theorem wk_zip2 (b1 b2 : Bool) (hm : X.mg "zip" = none) (ha : Ev T X es e (Eq (seqD b1 ds))) (hb : Ev T X es e2 (Eq (seqD b2 fs))) (hg : Gl X "zip" := by rfl)
    (hs : starEach [e, e2] X.env = (false, eval e X.env) :: starEach [e2] X.env := by rfl) (hs2 : starEach [e2] X.env = (false, eval e2 X.env) :: starEach [] X.env := by rfl) (hpl : (backTo pos (starEach [e2] X.env)).any (·.1) = false := by rfl) :
    Wk T X es (.Tuple elts kk tpos) (.Call (.Name "zip" p) [e, e2] [] pos) (Eq (zipD2 ds fs)) := fun p H σ R g o k =>
  wI_of (pi_zip2 b1 b2 hg hm (pa_cons pe_w (pa_cons pe_w pa_nil hs2) hs) hs hpl) (ha p H σ _ g o fun H1 x dx g1 r1 q1 => hb p H1 σ _ (g.go g1) (o.go g g1) fun H2 y dy g2 r2 q2 => by
    subst q1 q2
    obtain ⟨a1, xs, e1, t1, s1⟩ := Rp.src b1 (r1.mono g2.mono)
    obtain ⟨a2, ys, e2, t2, s2⟩ := Rp.src b2 r2
    subst e1 e2
    refine ⟨a1, a2, xs, ys, rfl, t1.sq b1, t2.sq b2, k _ H2 _ (g1.trans g2) rfl ⟨fun p' H' m g' => ?_⟩⟩
    have t1' := t1.mono b1 m
    have t2' := t2.mono b2 m
    have s1' := s1.mono m
    have s2' := s2.mono m
    have hl : (zipD2 ds fs).length = min xs.length ys.length := by
      unfold zipD2
      rw [List.length_map, List.length_zip, s1.length, s2.length]
    refine ⟨fun i hi => ⟨⟨t1'.sq b1, t2'.sq b2⟩, by rw [← hl]; exact hi⟩, ⟨⟨t1'.sq b1, t2'.sq b2⟩, hl.symm⟩, fun i v H2' hi y => ?_⟩
    obtain ⟨Ta, vs, ev, hT, eH, x, y, hx, hy, evs⟩ := y
    subst ev eH evs
    obtain ⟨d1, e1, r1'⟩ := s1'.get' hx
    obtain ⟨d2, e2, r2'⟩ := s2'.get' hy
    refine ⟨gr_new hT, .tuple [d1, d2], ?_, rp_newT g' hT (.cons r1' (.cons r2' .nil))⟩
    unfold zipD2
    rw [List.getElem?_map, zip_at e1 e2]
    rfl)
theorem wk_zip3 (b1 b2 b3 : Bool) (hm : X.mg "zip" = none) (ha : Ev T X es e (Eq (seqD b1 ds))) (hb : Ev T X es e2 (Eq (seqD b2 fs))) (hc : Ev T X es e3 (Eq (seqD b3 gs))) (hg : Gl X "zip" := by rfl)
    (hs : starEach [e, e2, e3] X.env = (false, eval e X.env) :: starEach [e2, e3] X.env := by rfl) (hs2 : starEach [e2, e3] X.env = (false, eval e2 X.env) :: starEach [e3] X.env := by rfl) (hs3 : starEach [e3] X.env = (false, eval e3 X.env) :: starEach [] X.env := by rfl) (hpl : (backTo pos (starEach [e2, e3] X.env)).any (·.1) = false := by rfl) :
    Wk T X es (.Tuple elts kk tpos) (.Call (.Name "zip" p) [e, e2, e3] [] pos) (Eq (zipD3 ds fs gs)) := fun p H σ R g o k =>
  wI_of (pi_zip3 b1 b2 b3 hg hm (pa_cons pe_w (pa_cons pe_w (pa_cons pe_w pa_nil hs3) hs2) hs) hs hpl) (ha p H σ _ g o fun H1 x dx g1 r1 q1 => hb p H1 σ _ (g.go g1) (o.go g g1) fun H2 y dy g2 r2 q2 => hc p H2 σ _ (g.go (g1.trans g2)) (o.go g (g1.trans g2)) fun H3 z dz g3 r3 q3 => by
    subst q1 q2 q3
    obtain ⟨a1, xs, e1, t1, s1⟩ := Rp.src b1 (r1.mono (g2.trans g3).mono)
    obtain ⟨a2, ys, e2, t2, s2⟩ := Rp.src b2 (r2.mono g3.mono)
    obtain ⟨a3, zs, e3, t3, s3⟩ := Rp.src b3 r3
    subst e1 e2 e3
    refine ⟨a1, a2, a3, xs, ys, zs, rfl, t1.sq b1, t2.sq b2, t3.sq b3, k _ H3 _ ((g1.trans g2).trans g3) rfl ⟨fun p' H' m g' => ?_⟩⟩
    have t1' := t1.mono b1 m
    have t2' := t2.mono b2 m
    have t3' := t3.mono b3 m
    have s1' := s1.mono m
    have s2' := s2.mono m
    have s3' := s3.mono m
    have hl : (zipD3 ds fs gs).length = min (min xs.length ys.length) zs.length := by
      unfold zipD3
      rw [List.length_map, List.length_zip, List.length_zip, s1.length, s2.length, s3.length, Nat.min_assoc]
    refine ⟨fun i hi => ⟨⟨t1'.sq b1, t2'.sq b2, t3'.sq b3⟩, by rw [← hl]; exact hi⟩, ⟨⟨t1'.sq b1, t2'.sq b2, t3'.sq b3⟩, hl.symm⟩, fun i v H2' hi y => ?_⟩
    obtain ⟨Ta, vs, ev, hT, eH, x, y, z, hx, hy, hz, evs⟩ := y
    subst ev eH evs
    obtain ⟨d1, e1, r1'⟩ := s1'.get' hx
    obtain ⟨d2, e2, r2'⟩ := s2'.get' hy
    obtain ⟨d3, e3, r3'⟩ := s3'.get' hz
    refine ⟨gr_new hT, .tuple [d1, d2, d3], ?_, rp_newT g' hT (.cons r1' (.cons r2' (.cons r3' .nil)))⟩
    unfold zipD3
    rw [List.getElem?_map, zip_at e1 (zip_at e2 e3)]
    rfl)
theorem wk_enum (b1 : Bool) (hm : X.mg "enumerate" = none) (ha : Ev T X es e (Eq (seqD b1 ds))) (hg : Gl X "enumerate" := by rfl) (hs : starEach [e] X.env = [(false, eval e X.env)] := by rfl) (hs1 : starEach [e] X.env = (false, eval e X.env) :: starEach [] X.env := by rfl) :
    Wk T X es (.Tuple elts kk tpos) (.Call (.Name "enumerate" p) [e] [] pos) (Eq (enumD ds)) := fun p H σ R g o k =>
  wI_of (pi_enumE b1 hg hm (pa_cons pe_w pa_nil hs1) hs) (ha p H σ _ g o fun H1 x dx g1 r1 q1 => by
    subst q1
    obtain ⟨a1, xs, e1, t1, s1⟩ := Rp.src b1 r1
    subst e1
    refine ⟨a1, xs, rfl, t1.sq b1, k _ H1 _ g1 rfl ⟨fun p' H' m g' => ?_⟩⟩
    have t1' := t1.mono b1 m
    have s1' := s1.mono m
    have hl : (enumD ds).length = xs.length := by
      unfold enumD
      rw [List.length_map, List.length_zipIdx, s1.length]
    refine ⟨fun i hi => ⟨t1'.sq b1, by rw [← hl]; exact hi⟩, ⟨t1'.sq b1, hl.symm⟩, fun i v H2' hi y => ?_⟩
    obtain ⟨Ta, vs, ev, hT, eH, x, hx, evs⟩ := y
    subst ev eH evs
    obtain ⟨d1, e1, r1'⟩ := s1'.get' hx
    refine ⟨gr_new hT, .tuple [.int (i : Int), d1], ?_, rp_newT g' hT (.cons (.int _) (.cons r1' .nil))⟩
    unfold enumD
    rw [List.getElem?_map, List.getElem?_zipIdx, e1]
    simp)
end
end DL
end
section
set_option Elab.async false
set_option linter.all false
set_option autoImplicit false
set_option maxRecDepth 100000
set_option maxHeartbeats 2000000
/-! Dict comprehensions whose keys are tuples of ints; list comprehensions with two clauses. -/
namespace DL
open PySem PySem.Spec L2
open PyProof.Rows hiding St

section
variable {X : Cx}
theorem d_setT {pins : List (Addr × Obj)} {σ : St} {H : Hp} {s : Shared} {E : Value → Shared → Prop} {c b : Addr} {kvs : List (List Key × V)} {k : List Key} {v : V} {r : Value} {Q : Unit → Shared → Prop} (hu : X.A.units < cLine) (I : Inv X pins σ H s) (e : H c = some (.dT kvs)) (eb : H b = some (.tup (k.map kV))) (hz : kvs.length < sizeLine)
    (rv : RelV v r) (h : ∀ s', Inv X pins σ (upd H c (.dT (putK kvs k v))) s' → Q () s') : wpAny (model X.prog X.w) X.A (dictSet c (.ref b) r) Q E s := by
  obtain ⟨z, hd, xs, rel, dd⟩ := dt_of I.hok e
  have hl : (putK kvs k v).length ≤ sizeLine := Nat.le_trans (length_putK kvs k v) hz
  refine wpAny_dictSet_heap (hsz := by rw [← Paired.length rel]; exact z) (knd := tupleKind (mixKind X.prog X.w)) (by exact hu) (key_of I.hok eb) dd fun h' dd' sb => h _ ?_
  obtain ⟨q, en, ep, hq, h2, h3, h4, _, h5⟩ := dd'
  refine d_write I (by rw [e]; exact True.intro) sb ⟨q, hq⟩ ⟨hl, hd, _, (rel.put k eb rv).keeps fun c' ys ec => ?_, q, en, ep, hq, h2, h3, h4, h5⟩
  rw [upd_ne (ne_of ec e (fun z => nomatch z))]
  exact ec

def tDcT (wi : TI) (g : TG) (tk tv : TE) (vs : List Nat) : TE := fun σ H Q => wi σ H fun J H1 => ∀ c, H1 c = none → ∃ W : Nat → Nat → Hp → Prop, (∃ m, W 0 m (upd H1 c (.dT []))) ∧ ∀ i m H, W i m H →
  (J.stop i H ∧ Q (.ref c) H) ∨ (J.go i H ∧ ∃ Nx : Hp → Prop, (∀ H', Nx H' → ∃ m', m' < m ∧ W (i + 1) m' H') ∧ ∀ x H', J.yld i H x H' → g x (wipe σ vs) H' fun σ2 H2 => wipe σ2 vs = wipe σ vs ∧
    tk σ2 H2 fun y H4 => tv σ2 H4 fun z H5 => ∃ kvs k b, y = .ref b ∧ H5 c = some (.dT kvs) ∧ H5 b = some (.tup (k.map kV)) ∧ kvs.length < sizeLine ∧ Nx (upd H5 c (.dT (putK kvs k z))))
/-- the readings of the parts, at whatever block -/
structure DcP (X : Cx) (scope : Scope) (tg kx vx : Expr) (g : TG) (tk tv : TE) : Prop where
  g : ∀ (s : Shared) (H : Hp) (C : Addr) (cl : List (Str × Addr)) (fp : List Addr), PG (bX X scope s H C cl fp) tg g
  k : ∀ (s : Shared) (H : Hp) (C : Addr) (cl : List (Str × Addr)) (fp : List Addr), PE (bX X scope s H C cl fp) kx tk
  v : ∀ (s : Shared) (H : Hp) (C : Addr) (cl : List (Str × Addr)) (fp : List Addr), PE (bX X scope s H C cl fp) vx tv
theorem dcT_core {pins : List (Addr × Obj)} {s : Shared} {σ : St} {H : Hp} {Q : VK} {kx vx tg iter : Expr} {scope : Scope} {own : List (Str × Nat)} {pos pos' : Pos} {wi : TI} {g : TG} {tk tv : TE} {use : Option (Value → Sem Unit)} {Qf : Value → Shared → Prop}
    (hu : X.A.units < cLine) (hc : X.calm = true) (hN : X.N.Nodup) (I : Inv X pins σ H s) (hi : PI X tg iter wi) (ok : BlkOk X.N X.env.scope scope own) (pp : DcP X scope tg kx vx g tk tv) (hs : ∀ x, foldedSetIterable iter X.env x = pure x) (h : tDcT wi g tk tv (own.map (·.2)) σ H Q)
    (hEnd : ∀ c C s' m H', Inv X pins σ H' s' → Q (.ref c) H' → s'.heap.Ns C m → FpOk X pins H' C → compPost (model X.prog X.w) X.A X.xe use Qf (.ref c) C (.ok .next) s') :
    wpAny (model X.prog X.w) X.A (comprehension (.DictComp kx vx [⟨tg, iter, [], 0⟩] scope pos) scope X.env pos' newDict false (eval iter X.env) use) Qf X.xe s := by
  have clo : ∀ y ∈ scope.names, y.2 = .free → ∃ c, X.env.cells.lookup y.1 = some c := fun y hy e => (ok.free y hy e).elim (fun q => I.ok.has _ (.inl q)) fun q => I.ok.has _ (.inr q)
  refine wpAny_comprehension_free (use := use) rfl hs (closure_ok clo) ok.kind (fun y hy e => by rw [ok.uniq y hy, e]) (thn (hi.run pins s σ H _ I h) fun _ _ hx => thn hx fun _ s2 hit => ?_)
  obtain ⟨it, fp, tn, J, H2, rfl, I2, Tr, st, fr, q⟩ := hit
  refine wpAny_newObj_type (newEnv_comp ?_)
  generalize eC : s2.heap.objs.size = c
  have cn : H2 c = none := I2.hok.fresh (Nat.le_of_eq eC)
  obtain ⟨W, ⟨m0, w0⟩, turn⟩ := q c cn
  generalize e3 : ({ s2 with heap := s2.heap.push { cls := .type "dict", data := .dict #[] } } : Shared) = s3
  have k3 : ∀ b o, s2.heap.get? b = some o → s3.heap.get? b = some o := fun b o e => by
    rw [← e3]
    exact Heap.get?_push_of_some _ e
  have I3 : Inv X pins σ (upd H2 c (.dT [])) s3 := by
    rw [← e3, ← eC]
    exact I2.laid (t' := s2.toks) (fun b o e => Heap.get?_push_of_some _ e) (Nat.le_refl _) (dt_empty s2.heap I2.big)
  have fr3 : ∀ b ∈ fp, FpOk X pins (upd H2 c (.dT [])) b ∧ b < s3.heap.objs.size := fun b hb => by
    obtain ⟨o, e, _⟩ := Tr.obj _ _ st b hb
    have lt : b < s2.heap.objs.size := Heap.lt_size e
    exact ⟨⟨by rw [upd_ne (by rw [← eC]; exact Nat.ne_of_lt lt)]; exact (fr b hb).1, (fr b hb).2⟩, Heap.lt_size (k3 b o e)⟩
  have I4 := block_start I3 ok hN fr3
  have st3 : tn 0 s3.heap := Tr.keep _ _ _ st fun b _ o e => k3 b o e
  have pg := pp.g s3 (upd H2 c (.dT [])) s3.heap.objs.size (cellsFrom (s3.heap.objs.size + 1) scope.names (cloFrom X.env.cells scope.names [])) fp
  have pk := pp.k s3 (upd H2 c (.dT [])) s3.heap.objs.size (cellsFrom (s3.heap.objs.size + 1) scope.names (cloFrom X.env.cells scope.names [])) fp
  have pv' := pp.v s3 (upd H2 c (.dT [])) s3.heap.objs.size (cellsFrom (s3.heap.objs.size + 1) scope.names (cloFrom X.env.cells scope.names [])) fp
  have nfp : ∀ b ∈ fp, (upd H2 c (.dT [])) b = none := fun b hb => (fr3 b hb).1.1
  show codeAny _ _ (.compStart (.DictComp kx vx [⟨tg, iter, [], 0⟩] scope pos) 0 (.ref it) (.ref c) (compEnvC scope (cellsFrom (s3.heap.objs.size + 1) scope.names (cloFrom X.env.cells scope.names [])) s3.heap.objs.size X.env)) (compPost (model X.prog X.w) X.A X.xe use Qf (.ref c) s3.heap.objs.size) { s3 with heap := pushCells (s3.heap.push { cls := .type "dict", data := .dict #[] }) scope.names }
  unfold bX at pg pk pv'
  generalize hce : compEnvC scope (cellsFrom (s3.heap.objs.size + 1) scope.names (cloFrom X.env.cells scope.names [])) s3.heap.objs.size X.env = ce at I4 pg pk pv' ⊢
  have locs : ce.locals = s3.heap.objs.size := by
    rw [← hce]
    rfl
  generalize hH3 : upd H2 c (.dT []) = H3 at I3 I4 pg pk pv' w0 nfp fr3
  generalize hs4 : ({ s3 with heap := pushCells (s3.heap.push { cls := .type "dict", data := .dict #[] }) scope.names } : Shared) = s4 at I4 ⊢
  have st4 : tn 0 s4.heap := Tr.keep _ _ _ st3 fun b _ o e => by
    rw [← hs4]
    exact pushCells_keeps _ _ _ _ (Heap.get?_push_of_some _ e)
  have frB : ∀ {σ' : St} {H' : Hp} {s' : Shared}, Inv (X.blk s3 H3 scope ce fp) [] σ' H' s' → (∀ b ∈ fp, H' b = none) → ∀ b ∈ fp, FpOk (X.blk s3 H3 scope ce fp) [] H' b := fun {σ' H' s'} I' hn b hb =>
    ⟨hn b hb, (I'.ok.exf b hb).1, I'.ok.exfs b hb, .inl hb, fun x c e => (I'.ok.exf b hb).2 x c e, fun p hp => absurd (show p ∈ ([] : List (Addr × Obj)) ++ [] from hp) (by simp)⟩
  have loop : codeAny (model X.prog X.w) X.A (.compLoop (.DictComp kx vx [⟨tg, iter, [], 0⟩] scope pos) 0 (.ref it) (.ref c) ce) (compPost (model X.prog X.w) X.A X.xe use Qf (.ref c) s3.heap.objs.size) s4 := by
    refine compLoop_anyD (fun n s' => ∃ i H', Inv (X.blk s3 H3 scope ce fp) [] (wipe σ (own.map (·.2))) H' s' ∧ tn i s'.heap ∧ (∀ b ∈ fp, H' b = none) ∧ W i n H') ?_ m0 ⟨0, H3, I4, st4, nfp, w0⟩
    rintro n s5 ⟨i, H5, I5, st5, n5, w5⟩
    rcases turn i n H5 w5 with ⟨stop, qq⟩ | ⟨go, Nx, hNx, step⟩
    · refine thnF (Tr.done (X.blk s3 H3 scope ce fp) rfl rfl rfl hc i [] s5 _ H5 (fun _ _ => False) I5 (frB I5 n5) st5 stop) fun r s6 ⟨hr, I6⟩ => ?_
      subst hr
      have I7 : Inv X pins σ H5 s6 := I3.call' (ch := fp) I6.os I6.base I6.hok I6.bare fun b hb => ⟨(fr3 b hb).1.2.2.2.1, (fr3 b hb).1.2.1, (fr3 b hb).1.2.2.2.2.1, (fr3 b hb).1.2.2.2.2.2⟩
      have nC : H5 s3.heap.objs.size = none := by
        rw [← locs]
        exact I6.free
      obtain ⟨m, hn, _⟩ := I6.loc
      have hn' : s6.heap.Ns ce.locals m := hn
      rw [locs] at hn'
      exact hEnd c s3.heap.objs.size s6 m H5 I7 qq hn' (I3.fpOk (Nat.le_refl _) nC)
    · refine thnF (Tr.item (X.blk s3 H3 scope ce fp) rfl rfl rfl hc i [] s5 _ H5 (fun _ _ => False) I5 (frB I5 n5) st5 go) fun r s6 ⟨u, hr, h6⟩ => ?_
      subst hr
      refine thnF h6 fun _ s7 ⟨x, H7, I7, r7, y7, st7, n7⟩ => ?_
      refine thnF (pg.run _ s7 _ H7 x u _ (I7.pinned (frB I7 n7) (Tr.obj _ _ st7)) r7 (step x H7 y7)) fun _ s8 ⟨σ8, H8, I8, hw8, q8⟩ => ?_
      refine wpAny_tests_nil ?_
      rw [if_pos rfl]
      refine thnF (pk.run _ s8 σ8 H8 _ I8 q8) fun z s10 ⟨yk, H10, I10, r10, q10⟩ => ?_
      refine thnF (pv'.run _ s10 σ8 H10 _ I10 q10) fun z2 s11 ⟨yv, H11, I11, r11, kvs, k, b, ek, hc11, hb11, hz11, nx⟩ => ?_
      subst ek
      cases r10
      refine d_setT (X := X.blk s3 H3 scope ce fp) hu I11 hc11 hb11 hz11 r11 fun s12 I12 => ?_
      obtain ⟨m', hm, w'⟩ := hNx _ nx
      have pin' : ∀ b' ∈ fp, ∀ o, s7.heap.get? b' = some o → s12.heap.get? b' = some o ∧ (upd H11 c (.dT (putK kvs k yv))) b' = none := fun b' hb o e =>
        ⟨(I12.pin (b', o) (List.mem_append_right _ (List.mem_append_right _ (mem_pinsAt hb e)))).1, (I12.pin (b', o) (List.mem_append_right _ (List.mem_append_right _ (mem_pinsAt hb e)))).2.1⟩
      refine ⟨m', hm, i + 1, _, (I12.unpinned (pins := [])).weak (by rw [← hw8, wipe_length]) (fun j v e => ?_), Tr.keep _ _ _ st7 fun b' hb o e => (pin' b' hb o e).1, fun b' hb => ?_, w'⟩
      · rw [← hw8] at e
        exact (wipe_some e).1
      · obtain ⟨o, e, _⟩ := Tr.obj _ _ st7 b' hb
        exact (pin' b' hb o e).2
  exact codeAny_compStart_dict loop (Tr.self X.A 0 _ _ _ st4 loop)
theorem pe_dcT {kx vx tg iter : Expr} {scope : Scope} {own : List (Str × Nat)} {pos : Pos} {wi : TI} {g : TG} {tk tv : TE} (hu : X.A.units < cLine) (hc : X.calm = true) (hN : X.N.Nodup) (hi : PI X tg iter wi) (ok : BlkOk X.N X.env.scope scope own) (pp : DcP X scope tg kx vx g tk tv) (hs : ∀ x, foldedSetIterable iter X.env x = pure x := by intro _; rfl) :
    PE X (.DictComp kx vx [⟨tg, iter, [], 0⟩] scope pos) (tDcT wi g tk tv (own.map (·.2))) := by
  refine ⟨fun pins s σ H Q I h => ?_⟩
  rw [arm_eval_DictComp]
  refine dcT_core hu hc hN I hi ok pp hs h fun c C s' m H' I' q hn f => ⟨m, hn, fun h'' sb => ?_⟩
  exact ⟨.ref c, H', I'.turned (t' := s'.toks) (fun b o hb e => (sb.2 b hb).trans e) f.1 f.2.1 f.2.2.2.1 f.2.2.2.2.1 f.2.2.2.2.2, rfl, q⟩
/-- name = {..}, the name a local -/
theorem ps_setDcT {i : Nat} {y : Str} {py : Pos} {kx vx tg iter : Expr} {scope : Scope} {own : List (Str × Nat)} {pos spos : Pos} {wi : TI} {g : TG} {tk tv : TE} (hu : X.A.units < cLine) (hc : X.calm = true) (hN : X.N.Nodup) (hy : X.N[i]? = some y) (hyl : X.env.scope.names.lookup y = some .local)
    (hsw : swapsWith (.DictComp kx vx [⟨tg, iter, [], 0⟩] scope pos) (some (.Name y py)) spos.line X.env = pure true) (hi : PI X tg iter wi) (ok : BlkOk X.N X.env.scope scope own) (pp : DcP X scope tg kx vx g tk tv) (hs : ∀ x, foldedSetIterable iter X.env x = pure x := by intro _; rfl) :
    PS X (.Assign [.Name y py] (.DictComp kx vx [⟨tg, iter, [], 0⟩] scope pos) spos) (tAsg (tDcT wi g tk tv (own.map (·.2))) (gName i)) := by
  refine ⟨fun pins s σ H P I h => ?_⟩
  rw [exec_Assign_Name_used _ _ _ _ hsw]
  refine wpAny_bind (wpAny_standAt (wpAny_bind ?_))
  show wpAny _ X.A (do let _ ← comprehension (.DictComp kx vx [⟨tg, iter, [], 0⟩] scope pos) scope X.env (firstIterPos [⟨tg, iter, [], 0⟩] pos) newDict false (eval iter X.env) (some (assign (.Name y py) X.env))) _ _ s
  refine wpAny_bind (thn (dcT_core (Q := fun x H1 => gName i x σ H1 P.nx) (Qf := fun _ s' => SP X pins P .next s') hu hc hN I hi ok pp hs h fun c C s' m H' I' q hn f => ?_) fun _ s' hq => wpAny_pure (wpAny_pure hq))
  show wpAny _ _ (assign (.Name y py) X.env (.ref c)) _ _ _
  refine wpAny_assign_Name (store_ok2 (v := V.ref c) I' hN hy (.inl hyl) rfl (fun s2 I2 ⟨a, sb, ha⟩ => ?_) (.inr hyl))
  have ne : C ≠ a := ha.elim (fun z => by rw [z]; exact f.2.1) fun z e => f.2.2.2.2.1 y a z e.symm
  exact ⟨m, hn.sameBut sb ne, fun h3 sb3 => ⟨_, H', I2.turned (t' := s2.toks) (fun b o hb e => (sb3.2 b hb).trans e) f.1 f.2.1 f.2.2.2.1 f.2.2.2.2.1 f.2.2.2.2.2, q⟩⟩
end
end DL
end
section
set_option Elab.async false
set_option linter.all false
set_option autoImplicit false
set_option maxRecDepth 100000
set_option maxHeartbeats 2000000
/-! Comprehensions of plain data: dicts, two clauses. -/
namespace DL
open PySem PySem.Spec L2
open PyProof.Rows hiding St

theorem stepN_made {T : Addr → Prop} {p : Pr} {H1 H : Hp} {c : Addr} {o y : HO} (g : Good T p H1) (hc : H1 c = none) (hg : Gr (fun b => b = c) p.row (upd H1 c o) H) (hy : H c = some y) (ny : ∀ xs, y ≠ .tup xs := by intro _ z; cases z) : StepN T p H1 (p.plus c) H := by
  have g0 : Gr0 p H1 H := under_gr hc hg
  refine ⟨g0, ⟨fun b x e _ => g0 b x e (fun z => z), rfl, fun _ h => h, fun b x e h => ?_, fun _ _ _ h => .inl h, g.under hc hg hy ny⟩, fun b h => .inl h, rfl⟩
  rcases h with h | h
  · exact h
  · rw [h, hc] at e
    cases e
def dicOf {α : Type} (kf : α → List Int) (vf : α → Int) (L : List α) : KD := L.foldl (fun acc x => putD acc (kf x) (vf x)) []
theorem dicOf_snoc {α : Type} {kf : α → List Int} {vf : α → Int} {L : List α} {x : α} : dicOf kf vf (L ++ [x]) = putD (dicOf kf vf L) (kf x) (vf x) := by
  unfold dicOf
  rw [List.foldl_append]
  rfl
theorem dicOf_len {α : Type} {kf : α → List Int} {vf : α → Int} (L : List α) : (dicOf kf vf L).length ≤ L.length := by
  suffices h : ∀ (L : List α) (acc : KD), (L.foldl (fun acc x => putD acc (kf x) (vf x)) acc).length ≤ acc.length + L.length by
    have := h L []
    simpa [dicOf] using this
  intro L
  induction L with
  | nil => intro acc; simp
  | cons x L ih =>
    intro acc
    have h1 := ih (putD acc (kf x) (vf x))
    have h2 := putD_length acc (kf x) (vf x)
    simp only [List.foldl_cons, List.length_cons]
    omega
section
variable {T : Addr → Prop} {X : Cx} {es : List Ent} {elt tg iter kx vx : Expr} {ifs : List Expr} {scope : Scope} {pos : Pos} {own : List (Str × Nat)} {α β : Type} {enc : α → D} {rest : List Stmt} {P : Po}
theorem dcP_w : DcP X scope tg kx vx (gB X scope tg) (eB X scope kx) (eB X scope vx) := ⟨pg_B, pe_B, pe_B⟩
theorem dc_read {kf : α → List Int} {vf : α → Int} {L : List α} (hi : Wk T X es tg iter (Eq (L.map enc))) (hl : L.length ≤ sizeLine) (hk : ∀ x ∈ L, kf x ≠ [])
    (hb : ∀ x ∈ L, ∃ es', ∀ s H c cl fp, Bd T (bX X scope s H c cl fp) (own.map (·.2)) tg (enc x) (wipeE es (own.map (·.2))) es' ∧ Ev T (bX X scope s H c cl fp) es' kx (Eq (.tuple ((kf x).map .int))) ∧ Ev T (bX X scope s H c cl fp) es' vx (Eq (.int (vf x))))
    (p : Pr) (H : Hp) (σ : St) (Q : VK) (g : Good T p H) (o : EnvOk X.K p H σ es) (k : ∀ p' H' c, StepN T p H p' H' → p'.loc c → H' c = some (.dT (encK (dicOf kf vf L))) → H c = none → Q (.ref c) H') : tDcT (wI X tg iter) (gB X scope tg) (eB X scope kx) (eB X scope vx) (own.map (·.2)) σ H Q :=
  hi p H σ _ g o fun J H1 xs g1 hA W D hD => by
    subst hA
    have G1 := g.go g1
    have O1 := o.go g g1
    refine ⟨fun i m H' => m = L.length - i ∧ i ≤ L.length ∧ H' D = some (.dT (encK (dicOf kf vf (L.take i)))) ∧ Gr (fun b => b = D) p.row (upd H1 D (.dT [])) H', ⟨L.length, by simp, Nat.zero_le _, upd_same, .refl _⟩, ?_⟩
    rintro i m H' ⟨rfl, hi, hDa, hg⟩
    have G' := G1.under hD hg hDa
    have O' := O1.under G1 hD hg
    obtain ⟨w1, w2, w3⟩ := W.at_ (p.plus D) H' (plus_mono hD hg) G'
    rw [List.length_map] at w1 w2 w3
    by_cases hlt : i < L.length
    · refine .inr ⟨w1 i hlt, fun H2 => H2 D = some (.dT (encK (dicOf kf vf (L.take (i + 1))))) ∧ Gr (fun b => b = D) p.row (upd H1 D (.dT [])) H2, fun H2 q => ⟨L.length - (i + 1), by omega, rfl, hlt, q⟩, fun v H2 y => ?_⟩
      obtain ⟨g2, d, ed, rd⟩ := w3 i v H2 hlt y
      rw [List.getElem?_map, List.getElem?_eq_getElem hlt] at ed
      cases ed
      have hx : L[i]? = some L[i] := List.getElem?_eq_getElem hlt
      have hm : L[i] ∈ L := List.getElem_mem hlt
      obtain ⟨es', hbl⟩ := hb L[i] hm
      intro s0 H0 c0 cl0 fp0
      have G2 := G'.go g2
      have O2 := (O'.go G' g2).wiped (own.map (·.2))
      refine (hbl s0 H0 c0 cl0 fp0).1 (p.plus D) H2 _ v _ G2 O2 rd fun σ2 O3 k3 l3 => ⟨wipe_same k3 l3, fun s1 H3 c1 cl1 fp1 => ?_⟩
      refine (hbl s1 H3 c1 cl1 fp1).2.1 (p.plus D) H2 σ2 _ G2 O3 fun H4 ky kd g4 r4 q4 s2 H5 c2 cl2 fp2 => ?_
      subst q4
      refine (hbl s2 H5 c2 cl2 fp2).2.2 (p.plus D) H4 σ2 _ (G2.go g4) (O3.go G2 g4) fun H6 y6 d6 g6 r6 q6 => ?_
      subst q6
      have g26 := (g2.trans g4).trans g6
      obtain ⟨b, eb, hbk⟩ := (r4.mono g6.mono).key (hk _ hm)
      subst eb
      have e6 := r6.int_v
      subst e6
      refine ⟨encK (dicOf kf vf (L.take i)), _, b, rfl, g26.own G' (.inr rfl) hDa (fun ps z => by cases z), hbk, ?_, ?_, cell_upd hg g26⟩
      · have h1 := dicOf_len (kf := kf) (vf := vf) (L.take i)
        rw [List.length_take] at h1
        rw [encK_length]
        omega
      · rw [upd_same, put_enc, take_snoc hx, dicOf_snoc]
    · have e : i = L.length := by omega
      subst e
      rw [List.take_length] at hDa
      have hn : H D = none := by
        cases q : H D with
        | none => rfl
        | some x =>
          obtain ⟨y, e, _⟩ := g1 D x q (fun z => z)
          rw [hD] at e
          cases e
      exact .inl ⟨w2, k _ H' D ((StepN.of_gr g g1).trans (stepN_made G1 hD hg hDa)) (.inr rfl) hDa hn⟩
theorem evn_dc {n : Nat} {kf : α → List Int} {vf : α → Int} {L : List α} (hr : Room n X.A) (hc : X.calm = true) (hN : X.N.Nodup) (ok : BlkOk X.N X.env.scope scope own) (hi : Wk T X es tg iter (Eq (L.map enc))) (hl : L.length ≤ sizeLine) (hk : ∀ x ∈ L, kf x ≠ [])
    (hb : ∀ x ∈ L, ∃ es', ∀ s H c cl fp, Bd T (bX X scope s H c cl fp) (own.map (·.2)) tg (enc x) (wipeE es (own.map (·.2))) es' ∧ Ev T (bX X scope s H c cl fp) es' kx (Eq (.tuple ((kf x).map .int))) ∧ Ev T (bX X scope s H c cl fp) es' vx (Eq (.int (vf x))))
    (hs : ∀ x, foldedSetIterable iter X.env x = pure x := by intro _; rfl) : EvN T X es (.DictComp kx vx [⟨tg, iter, [], 0⟩] scope pos) (.dic (dicOf kf vf L)) := fun p H σ Q g o k =>
  wE_of (pe_dcT (Nat.lt_of_succ_lt (hu_of hr)) hc hN pi_w ok dcP_w hs) (dc_read hi hl hk hb p H σ Q g o fun p' H' c st l e hn => k p' H' (.ref c) st ⟨c, rfl, l, e⟩ fun _ => ⟨c, rfl, hn⟩)
theorem ex_setDc (i : Nat) {n : Nat} {kf : α → List Int} {vf : α → Int} {L : List α} {x : Str} {px cpos : Pos} (hr : Room n X.A) (hN : X.N.Nodup) (hc : X.calm = true) (ok : BlkOk X.N X.env.scope scope own) (hi : Wk T X es tg iter (Eq (L.map enc))) (hl : L.length ≤ sizeLine) (hk : ∀ x ∈ L, kf x ≠ [])
    (hb : ∀ x ∈ L, ∃ es', ∀ s H c cl fp, Bd T (bX X scope s H c cl fp) (own.map (·.2)) tg (enc x) (wipeE es (own.map (·.2))) es' ∧ Ev T (bX X scope s H c cl fp) es' kx (Eq (.tuple ((kf x).map .int))) ∧ Ev T (bX X scope s H c cl fp) es' vx (Eq (.int (vf x))))
    (hn : Ex T X (es.set i (.dic (dicOf kf vf L))) rest P)
    (hsw : swapsWith (.DictComp kx vx [⟨tg, iter, [], 0⟩] scope cpos) (some (.Name x px)) pos.line X.env = pure true) (hy : X.N[i]? = some x := by rfl) (hyl : X.env.scope.names.lookup x = some .local := by rfl) (hs : ∀ x, foldedSetIterable iter X.env x = pure x := by intro _; rfl) : Ex T X es (.Assign [.Name x px] (.DictComp kx vx [⟨tg, iter, [], 0⟩] scope cpos) pos :: rest) P :=
  ex_cons fun p H σ D g o fi => wS1_of (ps_setDcT (Nat.lt_of_succ_lt (hu_of hr)) hc hN hy hyl hsw pi_w ok dcP_w hs) (dc_read hi hl hk hb p H σ _ g o fun p' H' c st l e hn' => fi.nx _ p' H' _ st.st hn (o.setN g st ⟨c, rfl, l, e⟩ fun _ => ⟨c, rfl, hn'⟩))

/-! ### two clauses -/
abbrev iB (X : Cx) (scope : Scope) (tg iter : Expr) : TI := fun σ H R => ∀ s H0 c cl fp, wI (bX X scope s H0 c cl fp) tg iter σ H R
theorem pi_B (s : Shared) (H : Hp) (c : Addr) (cl : List (Str × Addr)) (fp : List Addr) : PI (bX X scope s H c cl fp) tg iter (iB X scope tg iter) := ⟨fun pins s' σ H' R I h => h s H c cl fp pins s' I⟩
end
end DL
end
section
set_option Elab.async false
set_option linter.all false
set_option autoImplicit false
set_option maxRecDepth 100000
set_option maxHeartbeats 2000000
/-! List comprehensions with two clauses. -/
namespace DL
open PySem PySem.Spec L2
open PyProof.Rows hiding St

/-! ### a cell c made within, no name holds it -/
def Pr.plusC (p : Pr) (c : Addr) : Pr := ⟨fun b => p.cal b ∨ b = c, p.loc, p.row⟩
section
variable {T : Addr → Prop} {K : PySem.W.Frag} {p : Pr} {H1 H H' : Hp} {c : Addr} {o y : HO} {σ : St} {es : List Ent}
theorem plusC_own {b : Addr} : (p.plusC c).own b ↔ (p.own b ∨ b = c) := by
  constructor
  · rintro ((h | h) | h | h)
    · exact .inl (.inl h)
    · exact .inr h
    · exact .inl (.inr (.inl h))
    · exact .inl (.inr (.inr h))
  · rintro ((h | h | h) | h)
    · exact .inl (.inl h)
    · exact .inr (.inl h)
    · exact .inr (.inr h)
    · exact .inl (.inr h)
abbrev GrC (p : Pr) (c : Addr) : Hp → Hp → Prop := Gr (fun b => b = c) p.row
theorem GrC.trans {H2 : Hp} (a : GrC p c H1 H) (b : GrC p c H H2) : GrC p c H1 H2 := Gr.trans a b (fun _ _ _ z => z) (fun _ _ _ _ z => z)
theorem GrC.of0 (a : Gr0 p H1 H) : GrC p c H1 H := fun b x e _ => a b x e (fun z => z)
theorem GrC.upd {o' : HO} : GrC p c H (upd H c o') := fun b x e n => ⟨x, by rw [upd_ne n]; exact e, .refl⟩
theorem GrC.mono (g : GrC p c H H') : Mono (p.plusC c).own H (p.plusC c).own H' := fun a x e n nt => by
  have nc : a ≠ c := fun z => n (plusC_own.mpr (.inr z))
  obtain ⟨y, e', k⟩ := g a x e nc
  rcases k with rfl | ⟨ps, qs, rfl, _, _⟩ | ⟨r, _⟩
  · exact ⟨e', n⟩
  · exact absurd rfl (nt ps)
  · exact absurd (plusC_own.mpr (.inl (.inr (.inr r)))) n
theorem GrC.good (g : GrC p c H H') (G : Good T (p.plusC c) H) (hc : H c = some o) (nt : ∀ ps, o ≠ .tbl ps) (hc' : H' c = some y) (ny : ∀ xs, y ≠ .tup xs := by intro _ z; cases z) : Good T (p.plusC c) H' where
  there := fun b hb => by
    by_cases e : b = c
    · exact ⟨y, by rw [e]; exact hc'⟩
    · obtain ⟨x, q⟩ := G.there b hb
      obtain ⟨z, q', _⟩ := g b x q e
      exact ⟨z, q'⟩
  tabs := fun t ht => tabG_kept (G.tabs t ht) fun x e => g t x e fun z => by
    obtain ⟨ps, q, _⟩ := G.tabs t ht
    rw [z, hc] at q
    exact nt ps (Option.some.inj q)
  rl := G.rl
  lc := G.lc
  nt := fun b xs hb e => by
    by_cases q : b = c
    · rw [q, hc'] at e
      exact ny xs (Option.some.inj e)
    · obtain ⟨x, ex⟩ := G.there b hb
      obtain ⟨z, e', k⟩ := g b x ex q
      rw [e] at e'
      cases e'
      rcases k with q | ⟨ps, qs, _, q, _⟩ | ⟨_, s, _, v⟩
      · exact G.nt b xs hb (by rw [ex, q])
      · cases q
      · obtain ⟨i, j, k, q, _⟩ := v
        cases q
theorem GrC.env (hrc : ¬ p.row c) (g : GrC p c H H') (G : Good T (p.plusC c) H) (ok : EnvOk K (p.plusC c) H σ es) : EnvOk K (p.plusC c) H' σ es := by
  have m := g.mono
  refine ⟨ok.len, fun i e q => ?_, ok.apart⟩
  have h := ok.at_ i e q
  cases e with
  | unk => trivial
  | dat d =>
    obtain ⟨x, e, r⟩ := h
    exact ⟨x, e, r.mono m⟩
  | lst ds =>
    obtain ⟨a, xs, e, l, q, r⟩ := h
    obtain ⟨y, e', k⟩ := g a _ q fun z => G.lc a l (.inr z)
    rcases k with rfl | ⟨ps, qs, z, _, _⟩ | ⟨rw', _⟩
    · exact ⟨a, xs, e, l, e', r.mono m⟩
    · cases z
    · exact absurd rw' (G.rl _ l)
  | dic kvs =>
    obtain ⟨a, e, l, q⟩ := h
    obtain ⟨y, e', k⟩ := g a _ q fun z => G.lc a l (.inr z)
    rcases k with rfl | ⟨ps, qs, z, _, _⟩ | ⟨rw', _⟩
    · exact ⟨a, e, l, e'⟩
    · cases z
    · exact absurd rw' (G.rl _ l)
  | row ns =>
    obtain ⟨r, x, s, e, l, q, rv, rp, hl⟩ := h
    by_cases hz : r = c
    · have e1 : p.row r := l
      rw [hz] at e1
      exact absurd e1 hrc
    · obtain ⟨y, e', k⟩ := g r x q hz
      refine ⟨r, y, s, e, l, e', ?_, rp.mono m, hl⟩
      rcases k with rfl | ⟨ps, qs, rfl, _, _⟩ | ⟨_, s', v1, v2⟩
      · exact rv
      · exact absurd rfl (rv.ntbl ps)
      · cases v1.same rv
        exact v2
/-- from where c was not -/
theorem Good.underC (G : Good T p H1) (hn : H1 c = none) (g : GrC p c (upd H1 c o) H) (hy : H c = some y) (ny : ∀ xs, y ≠ .tup xs := by intro _ z; cases z) : Good T (p.plusC c) H where
  there := fun b hb => by
    rcases plusC_own.mp hb with h | h
    · obtain ⟨x, e⟩ := G.there b h
      obtain ⟨z, e', _⟩ := under_at hn g e
      exact ⟨z, e'⟩
    · exact ⟨y, by rw [h]; exact hy⟩
  tabs := fun t ht => tabG_kept (G.tabs t ht) fun x e => under_at hn g e
  rl := G.rl
  lc := fun b hb => by
    rintro (h | h)
    · exact G.lc b hb h
    · obtain ⟨x, e⟩ := G.there b (.inr (.inl hb))
      rw [h, hn] at e
      cases e
  nt := fun b xs hb e => by
    rcases plusC_own.mp hb with h | h
    · obtain ⟨x, ex⟩ := G.there b h
      obtain ⟨z, e', k⟩ := under_at hn g ex
      rw [e] at e'
      cases e'
      rcases k with q | ⟨ps, qs, _, q, _⟩ | ⟨_, s, _, v⟩
      · exact G.nt b xs h (by rw [ex, q])
      · cases q
      · obtain ⟨i, j, k, q, _⟩ := v
        cases q
    · rw [h, hy] at e
      exact ny xs (Option.some.inj e)
theorem underC_mono (hn : H1 c = none) (g : GrC p c (upd H1 c o) H) : Mono p.own H1 (p.plusC c).own H := fun a x e n nt => by
  obtain ⟨y, e', k⟩ := under_at hn g e
  have n' : ¬ (p.plusC c).own a := fun z => (plusC_own.mp z).elim n (ne_of_none e hn)
  rcases k with rfl | ⟨ps, qs, rfl, _, _⟩ | ⟨r, _⟩
  · exact ⟨e', n'⟩
  · exact absurd rfl (nt ps)
  · exact absurd (.inr (.inr r)) n
theorem EnvOk.underC (ok : EnvOk K p H1 σ es) (G : Good T p H1) (hn : H1 c = none) (g : GrC p c (upd H1 c o) H) : EnvOk K (p.plusC c) H σ es := by
  have m := underC_mono hn g
  refine ⟨ok.len, fun i e q => ?_, ok.apart⟩
  have h := ok.at_ i e q
  cases e with
  | unk => trivial
  | dat d =>
    obtain ⟨x, e, r⟩ := h
    exact ⟨x, e, r.mono m⟩
  | lst ds =>
    obtain ⟨a, xs, e, l, q, r⟩ := h
    obtain ⟨y, e', k⟩ := under_at hn g q
    rcases k with rfl | ⟨ps, qs, z, _, _⟩ | ⟨rw', _⟩
    · exact ⟨a, xs, e, l, e', r.mono m⟩
    · cases z
    · exact absurd rw' (G.rl _ l)
  | dic kvs =>
    obtain ⟨a, e, l, q⟩ := h
    obtain ⟨y, e', k⟩ := under_at hn g q
    rcases k with rfl | ⟨ps, qs, z, _, _⟩ | ⟨rw', _⟩
    · exact ⟨a, e, l, e'⟩
    · cases z
    · exact absurd rw' (G.rl _ l)
  | row ns =>
    obtain ⟨r, x, s, e, l, q, rv, rp, hl⟩ := h
    obtain ⟨y, e', k⟩ := under_at hn g q
    refine ⟨r, y, s, e, l, e', ?_, rp.mono m, hl⟩
    rcases k with rfl | ⟨ps, qs, rfl, _, _⟩ | ⟨_, s', v1, v2⟩
    · exact rv
    · exact absurd rfl (rv.ntbl ps)
    · cases v1.same rv
      exact v2
end

section
variable {T : Addr → Prop} {X : Cx} {es : List Ent} {elt tg iter : Expr} {scope : Scope} {pos : Pos} {own : List (Str × Nat)} {α β : Type} {enc : α → D} {rest : List Stmt} {P : Po}
theorem lc2_read {tg1 iter1 : Expr} {enc1 : β → D} {vs1 : List Nat} {L : List α} {M : α → List β} {f : α → β → D} (hi : Wk T X es tg iter (Eq (L.map enc))) (hl : (L.flatMap fun x => (M x).map (f x)).length < sizeLine)
    (hb : ∀ x ∈ L, ∃ es1, (∀ s H c cl fp, Bd T (bX X scope s H c cl fp) (own.map (·.2)) tg (enc x) (wipeE es (own.map (·.2))) es1 ∧ Wk T (bX X scope s H c cl fp) es1 tg1 iter1 (Eq ((M x).map enc1))) ∧
      ∀ y ∈ M x, ∃ es2, ∀ s H c cl fp, Bd T (bX X scope s H c cl fp) vs1 tg1 (enc1 y) (wipeE es1 vs1) es2 ∧ Ev T (bX X scope s H c cl fp) es2 elt (Eq (f x y)))
    (p : Pr) (H : Hp) (σ : St) (Q : VK) (g : Good T p H) (o : EnvOk X.K p H σ es) (k : ∀ H' v, Gr0 p H H' → Rp X.K p.own H' v (.list (L.flatMap fun x => (M x).map (f x))) → Q v H') :
    tLc2 (wI X tg iter) (gB X scope tg) tYes (iB X scope tg1 iter1) (gB X scope tg1) tYes (eB X scope elt) (own.map (·.2)) vs1 σ H Q :=
  hi p H σ _ g o fun J H1 xs g1 hA W c hc => by
    subst hA
    have G1 := g.go g1
    have O1 := o.go g g1
    have hrc : ¬ p.row c := fun r => by
      obtain ⟨x, e'⟩ := G1.there c (.inr (.inr r))
      rw [hc] at e'
      cases e'
    refine ⟨fun i m H' => m = L.length - i ∧ i ≤ L.length ∧ ∃ acc, H' c = some (.lst acc) ∧ GrC p c (upd H1 c (.lst [])) H' ∧ Rps X.K (p.plusC c).own H' acc ((L.take i).flatMap fun x => (M x).map (f x)), ⟨L.length, by simp, Nat.zero_le _, [], upd_same, .refl _, .nil⟩, ?_⟩
    rintro i m H' ⟨rfl, hi, acc, hca, hg, hr⟩
    have G' := G1.underC hc hg hca
    have O' := O1.underC G1 hc hg
    obtain ⟨w1, w2, w3⟩ := W.at_ (p.plusC c) H' (underC_mono hc hg) G'
    rw [List.length_map] at w1 w2 w3
    by_cases hlt : i < L.length
    · have hx : L[i]? = some L[i] := List.getElem?_eq_getElem hlt
      have hm : L[i] ∈ L := List.getElem_mem hlt
      have eT : (L.take (i + 1)).flatMap (fun x => (M x).map (f x)) = ((L.take i).flatMap fun x => (M x).map (f x)) ++ (M L[i]).map (f L[i]) := by
        rw [take_snoc hx, List.flatMap_append]
        simp
      have lenT : ((L.take (i + 1)).flatMap fun x => (M x).map (f x)).length ≤ (L.flatMap fun x => (M x).map (f x)).length := by
        conv => rhs; rw [← List.take_append_drop (i + 1) L, List.flatMap_append]
        rw [List.length_append]
        exact Nat.le_add_right _ _
      refine .inr ⟨w1 i hlt, fun H2 => ∃ acc, H2 c = some (.lst acc) ∧ GrC p c (upd H1 c (.lst [])) H2 ∧ Rps X.K (p.plusC c).own H2 acc ((L.take (i + 1)).flatMap fun x => (M x).map (f x)), fun H2 q => ⟨L.length - (i + 1), by omega, rfl, hlt, q⟩, fun v H2 y => ?_⟩
      obtain ⟨g2, d, ed, rd⟩ := w3 i v H2 hlt y
      rw [List.getElem?_map, List.getElem?_eq_getElem hlt] at ed
      cases ed
      obtain ⟨es1, hbl, hel⟩ := hb L[i] hm
      intro s0 H0 c0 cl0 fp0
      have G2 := G'.go g2
      have hc2 : H2 c = some (.lst acc) := by
        obtain ⟨z, e, kk⟩ := g2 c _ hca (fun z => z)
        rcases kk with rfl | ⟨ps, qs, q, _, _⟩ | ⟨r, _⟩
        · exact e
        · cases q
        · obtain ⟨x, e'⟩ := G1.there c (.inr (.inr r))
          rw [hc] at e'
          cases e'
      refine (hbl s0 H0 c0 cl0 fp0).1 (p.plusC c) H2 _ v _ G2 ((O'.go G' g2).wiped (own.map (·.2))) rd fun σ2 O3 k3 l3 => ⟨wipe_same k3 l3, ?_⟩
      unfold tYes
      dsimp only
      refine Eq.mpr (if_pos (rfl : true = true)) ?_
      intro s1 H3 c1 cl1 fp1
      refine (hbl s1 H3 c1 cl1 fp1).2 (p.plusC c) H2 σ2 _ G2 O3 fun J1 H4 ys g4 hB W1 => ?_
      subst hB
      have G4 := G2.go g4
      have O4 := O3.go G2 g4
      have own_c : ∀ {Ha Hb : Hp} {ac : List V}, Gr0 (p.plusC c) Ha Hb → Ha c = some (.lst ac) → Hb c = some (.lst ac) := fun {Ha Hb ac} ga ea => by
        obtain ⟨z, e, kk⟩ := ga c _ ea (fun z => z)
        rcases kk with rfl | ⟨ps, qs, q, _, _⟩ | ⟨r, _⟩
        · exact e
        · cases q
        · obtain ⟨x, e'⟩ := G1.there c (.inr (.inr r))
          rw [hc] at e'
          cases e'
      have hc4 := own_c g4 hc2
      refine ⟨fun j n H' => n = (M L[i]).length - j ∧ j ≤ (M L[i]).length ∧ ∃ acc, H' c = some (.lst acc) ∧ GrC p c H4 H' ∧ Rps X.K (p.plusC c).own H' acc (((L.take i).flatMap fun x => (M x).map (f x)) ++ ((M L[i]).take j).map (f L[i])),
        ⟨(M L[i]).length, by simp, Nat.zero_le _, acc, hc4, .refl _, by simpa using hr.mono (g2.trans g4).mono⟩, ?_⟩
      rintro j n H5 ⟨rfl, hj, acc5, hc5, hg5, hr5⟩
      have G5 := hg5.good G4 hc4 (fun ps z => nomatch z) hc5
      have O5 := hg5.env hrc G4 O4
      obtain ⟨u1, u2, u3⟩ := W1.at_ (p.plusC c) H5 hg5.mono G5
      rw [List.length_map] at u1 u2 u3
      have toH1 : ∀ {Hb : Hp}, GrC p c H4 Hb → GrC p c (upd H1 c (.lst [])) Hb := fun {Hb} gb => hg.trans (GrC.trans (GrC.of0 (Gr0.trans (p := p) g2 g4)) gb)
      by_cases hlj : j < (M L[i]).length
      · have hy : (M L[i])[j]? = some (M L[i])[j] := List.getElem?_eq_getElem hlj
        refine .inr ⟨u1 j hlj, fun H6 => ∃ acc, H6 c = some (.lst acc) ∧ GrC p c H4 H6 ∧ Rps X.K (p.plusC c).own H6 acc (((L.take i).flatMap fun x => (M x).map (f x)) ++ ((M L[i]).take (j + 1)).map (f L[i])), fun H6 q => ⟨(M L[i]).length - (j + 1), by omega, rfl, hlj, q⟩, fun v6 H6 y6 => ?_⟩
        obtain ⟨g6, d6, ed6, rd6⟩ := u3 j v6 H6 hlj y6
        rw [List.getElem?_map, hy] at ed6
        cases ed6
        obtain ⟨es2, hb2⟩ := hel (M L[i])[j] (List.getElem_mem hlj)
        intro s2 H7 c2 cl2 fp2
        have G6 := G5.go g6
        refine (hb2 s2 H7 c2 cl2 fp2).1 (p.plusC c) H6 _ v6 _ G6 ((O5.go G5 g6).wiped vs1) rd6 fun σ3 O6 k6 l6 => ⟨wipe_same k6 l6, ?_⟩
        refine Eq.mpr (if_pos (rfl : true = true)) ?_
        intro s3 H8 c3 cl3 fp3
        refine (hb2 s3 H8 c3 cl3 fp3).2 (p.plusC c) H6 σ3 _ G6 O6 fun H9 v9 d9 g9 r9 q9 => ?_
        subst q9
        have hc9 := own_c (g6.trans g9) hc5
        have hr9 := (hr5.mono (g6.trans g9).mono).append (Rps.cons r9 .nil)
        have e9 : ((L.take i).flatMap fun x => (M x).map (f x)) ++ ((M L[i]).take j).map (f L[i]) ++ [f L[i] (M L[i])[j]] = ((L.take i).flatMap fun x => (M x).map (f x)) ++ ((M L[i]).take (j + 1)).map (f L[i]) := by
          rw [List.append_assoc, take_snoc hy, List.map_append]
          rfl
        rw [e9] at hr9
        refine ⟨acc5, hc9, ?_, acc5 ++ [v9], upd_same, GrC.trans (GrC.trans hg5 (GrC.of0 (Gr0.trans (p := p) g6 g9))) GrC.upd, hr9.mono (GrC.mono (p := p) GrC.upd)⟩
        have h1 := hr9.length
        have h2 : (((L.take i).flatMap fun x => (M x).map (f x)) ++ ((M L[i]).take (j + 1)).map (f L[i])).length ≤ ((L.take (i + 1)).flatMap fun x => (M x).map (f x)).length := by
          rw [eT, List.length_append, List.length_append, List.length_map, List.length_map, List.length_take]
          omega
        rw [List.length_append, List.length_singleton] at h1
        omega
      · have e : j = (M L[i]).length := by omega
        subst e
        rw [List.take_length, ← eT] at hr5
        exact .inl ⟨u2, acc5, hc5, toH1 hg5, hr5⟩
    · have e : i = L.length := by omega
      subst e
      rw [List.take_length] at hr
      have gE := under_gr hc hg
      exact .inl ⟨w2, k H' (.ref c) (g1.trans gE) (.lst ⟨G1.nown hc, hca⟩ (hr.mono (.weak fun a z => plusC_own.mpr (.inl z))))⟩
theorem ev_lc2 {tg1 iter1 : Expr} {enc1 : β → D} {vs1 : List Nat} {L : List α} {M : α → List β} {f : α → β → D} (hc : X.calm = true) (hN : X.N.Nodup) (ok : BlkOk X.N X.env.scope scope own) (hv : ∀ i ∈ vs1, i ∈ own.map (·.2)) (hi : Wk T X es tg iter (Eq (L.map enc))) (hl : (L.flatMap fun x => (M x).map (f x)).length < sizeLine)
    (hb : ∀ x ∈ L, ∃ es1, (∀ s H c cl fp, Bd T (bX X scope s H c cl fp) (own.map (·.2)) tg (enc x) (wipeE es (own.map (·.2))) es1 ∧ Wk T (bX X scope s H c cl fp) es1 tg1 iter1 (Eq ((M x).map enc1))) ∧
      ∀ y ∈ M x, ∃ es2, ∀ s H c cl fp, Bd T (bX X scope s H c cl fp) vs1 tg1 (enc1 y) (wipeE es1 vs1) es2 ∧ Ev T (bX X scope s H c cl fp) es2 elt (Eq (f x y)))
    (hs : ∀ x, foldedSetIterable iter X.env x = pure x := by intro _; rfl) (hs1 : ∀ env x, foldedSetIterable iter1 env x = pure x := by intro _ _; rfl) : Ev T X es (.ListComp elt [⟨tg, iter, [], 0⟩, ⟨tg1, iter1, [], 0⟩] scope pos) (Eq (.list (L.flatMap fun x => (M x).map (f x)))) := fun p H σ Q g o k =>
  wE_of (pe_lc2 hc hN pi_w ok hv (pg_B (tg := tg)) (fun _ _ _ _ _ => pts_nil) (pi_B (tg := tg1) (iter := iter1)) (pg_B (tg := tg1)) (fun _ _ _ _ _ => pts_nil) (pe_B (elt := elt)) hs hs1) (lc2_read hi hl hb p H σ Q g o fun H' v g' r => k H' v _ g' r rfl)
end
end DL
end
section
set_option Elab.async false
set_option linter.all false
set_option autoImplicit false
set_option maxRecDepth 100000
set_option maxHeartbeats 2000000
/-! sorted of data, of a dict's keys, of a set of ints; sum of a tuple; in. -/
namespace DL
open PySem PySem.Spec L2
open PyProof.Rows hiding St
open PySem.W (AllAlike Sortable dataLe EachIs alike)

/-! ### sorted(list of data) -/
section
variable {X : Cx} {β : Type}
theorem each_of {s : Shared} {R : V → β → Prop} : ∀ {xs : List V} {us : List Value} {bs : List β}, Paired R xs bs → Vals xs us → EachIs (fun v b => ∃ x, RelV x v ∧ R x b) us bs
  | _, _, _, .nil, .nil => .nil
  | _, _, _, .cons h t, .cons r rr => .cons ⟨_, r, h⟩ (each_of (s := s) t rr)
theorem of_each {R : V → β → Prop} : ∀ {us : List Value} {bs : List β}, EachIs (fun v b => ∃ x, RelV x v ∧ R x b) us bs → ∃ xs, Vals xs us ∧ Paired R xs bs
  | _, _, .nil => ⟨[], .nil, .nil⟩
  | _, _, .cons ⟨x, r, h⟩ t => by
    obtain ⟨xs, h1, h2⟩ := of_each t
    exact ⟨x :: xs, .cons r h1, .cons h h2⟩
def rSrt (K : PySem.W.Frag) (enc : β → D) : List V → Hp → VK → Prop := fun vs H Q => ∃ (a : Addr) (xs : List V) (bs : List β) (R : V → β → Prop), vs = [V.ref a] ∧ SqL K H a xs ∧ Paired (fun x b => R x b ∧ Dp K H x (enc b)) xs bs ∧ AllAlike (bs.map enc) ∧ Sortable (bs.map enc) ∧ (∀ b ∈ bs, (enc b).depth ≤ 8) ∧
  ∀ ys p, Paired R ys (bs.mergeSort (dataLe false enc)) → H p = none → Q (.ref p) (upd H p (.lst ys))
theorem cr_srt {n : Nat} {enc : β → D} (hr : Room n X.A) : CallR X (.builtin "sorted") (rSrt X.K enc) := by
  intro pins s σ H vs us Q I r h
  obtain ⟨a, xs, bs, R, rfl, hs, hp, hal, hk, hd, q⟩ := h
  obtain ⟨its, rv, hl, hz⟩ := I.list hs
  rw [Vals.ref1 r]
  have hp1 : Paired R xs bs := by
    clear q hal hk hd rv hz hs
    induction hp with
    | nil => exact .nil
    | cons h t ih => exact .cons h.1 ih
  have e1 := each_of (s := s) hp1 rv
  have e2 : EachIs (fun v b => ∃ as, Reads s.heap v (enc b) as) its bs := by
    clear q hal hk hd hz hs hl e1 hp1
    induction hp generalizing its with
    | nil =>
      cases rv
      exact .nil
    | cons h t ih =>
      cases rv with
      | cons r rr => exact .cons (Dp.reads I _ _ _ h.2 r) (ih _ rr)
  have hL : bs.length ≤ sizeLine := by
    have h1 := rv.length
    have h2 := e1.length
    omega
  refine PySem.W.sorted_data hl.isList e1 e2 hal hk hL (fun b hb => ?_) fun out ho eo => ?_
  · have := hr.un
    have := hd b hb
    omega
  · obtain ⟨ys, v1, p1⟩ := of_each eo
    obtain ⟨ep, he⟩ := PyProof.Rows.sortedAll_at s.heap its out.toArray
    have hlen : ys.length ≤ sizeLine := by
      rw [v1.length, ho]
      exact hL
    exact ⟨.ref _, upd H (s.heap.objs.size + 1) (.lst ys), I.laid (t' := s.toks) (fun _ _ => PyProof.Rows.sortedAll_old) (Nat.le_succ _) ⟨hlen, out, ep, v1, he⟩, rfl, q ys _ p1 (I.hok.fresh (Nat.le_succ _))⟩
theorem paired_rps {K : PySem.W.Frag} {O : Addr → Prop} {H : Hp} {enc : β → D} : ∀ {ys : List V} {bs : List β}, Paired (fun x b => Rp K O H x (enc b)) ys bs → Rps K O H ys (bs.map enc)
  | _, _, .nil => .nil
  | _, _, .cons h t => .cons h (paired_rps t)
theorem rps_paired {K : PySem.W.Frag} {O : Addr → Prop} {H : Hp} {enc : β → D} (hp : ∀ b, plain (enc b) = true) : ∀ {ys : List V} {bs : List β}, Rps K O H ys (bs.map enc) → Paired (fun x b => Rp K O H x (enc b) ∧ Dp K H x (enc b)) ys bs
  | _, [], h => by
    cases h
    exact .nil
  | _, b :: bs, h => by
    cases h with
    | cons h t => exact .cons ⟨h, h.dp (hp b)⟩ (rps_paired hp t)
end
section
variable {T : Addr → Prop} {X : Cx} {es : List Ent} {e a b : Expr} {pos p1 : Pos} {β : Type} {n : Nat}
theorem ev_srt {enc : β → D} {bs : List β} (hr : Room n X.A) (hm : X.mg "sorted" = none) (ha : EvR T X es a (Eq (.list (bs.map enc)))) (hp : ∀ b, plain (enc b) = true) (hd : ∀ b, (enc b).depth ≤ 8) (hal : AllAlike (bs.map enc)) (hk : Sortable (bs.map enc)) (hg : Gl X "sorted" := by rfl)
    (he : starEach [a] X.env = (false, eval a X.env) :: starEach [] X.env := by rfl) (hpl : (backTo pos (starEach [] X.env)).any (·.1) = false := by rfl) : Ev T X es (.Call (.Name "sorted" p1) [a] [] pos) (Eq (.list ((bs.mergeSort (dataLe false enc)).map enc))) :=
  ev_cB1 (cr_srt (enc := enc) hr) hm boot_sorted ha (fun p H v d Q g r q k => by
    subst q
    obtain ⟨a, xs, e, hq, rs⟩ := r.lst
    subst e
    exact ⟨a, xs, bs, fun x b => Rp X.K p.own H x (enc b), rfl, .of hq, rps_paired hp rs, hal, hk, fun b _ => hd b, fun ys q hpy hn => k _ _ _ (gr_new hn) (rp_newL g hn (paired_rps hpy)) rfl⟩) hg (he := he) (hpl := hpl)
theorem alike_tI (b b' : List Int) : alike (.tuple (b.map .int)) (.tuple (b'.map .int)) = true := by
  rw [alike]
  exact PySem.W.alike_ints b b'
abbrev encT : List Int → D := fun b => .tuple (b.map .int)
theorem encT_plain (b : List Int) : plain (encT b) = true := shp_plain (n := 1) (by rw [shp]; exact shps_mapI b)
theorem encT_depth (b : List Int) : (encT b).depth ≤ 8 := by
  show (PyData.tuple (b.map .int)).depth ≤ 8
  rw [PyData.depth, PySem.W.depth_ints]
  decide
/-- sorted of tuples of ints, none of them empty -/
theorem ev_srtT {bs : List (List Int)} (hr : Room n X.A) (hm : X.mg "sorted" = none) (ha : EvR T X es a (Eq (.list (bs.map encT)))) (h0 : ∀ b ∈ bs, b ≠ []) (hg : Gl X "sorted" := by rfl)
    (he : starEach [a] X.env = (false, eval a X.env) :: starEach [] X.env := by rfl) (hpl : (backTo pos (starEach [] X.env)).any (·.1) = false := by rfl) : Ev T X es (.Call (.Name "sorted" p1) [a] [] pos) (Eq (.list ((bs.mergeSort (dataLe false encT)).map encT))) :=
  ev_srt hr hm ha encT_plain encT_depth (AllAlike.of fun b b' => alike_tI b b') (.inl fun d hd => by
    obtain ⟨b, hb, rfl⟩ := List.mem_map.mp hd
    cases b with
    | nil => exact absurd rfl (h0 _ hb)
    | cons x r => exact ⟨_, _, rfl⟩) hg he hpl
/-- sorted of ints -/
theorem ev_srtI {ns : List Int} (hr : Room n X.A) (hm : X.mg "sorted" = none) (ha : EvR T X es a (Eq (.list (ns.map .int)))) (hg : Gl X "sorted" := by rfl)
    (he : starEach [a] X.env = (false, eval a X.env) :: starEach [] X.env := by rfl) (hpl : (backTo pos (starEach [] X.env)).any (·.1) = false := by rfl) : Ev T X es (.Call (.Name "sorted" p1) [a] [] pos) (Eq (.list ((ns.mergeSort fun x y => decide (x ≤ y)).map .int))) := by
  have h := ev_srt (p1 := p1) (enc := (.int : Int → D)) (bs := ns) hr hm ha (fun _ => rfl) (fun _ => by simp [PyData.depth]) (AllAlike.of fun _ _ => by simp [alike]) (Sortable.others fun _ => ⟨(fun z => by cases z), fun _ z => by cases z⟩) hg he hpl
  rw [show (dataLe false (.int : Int → D)) = fun x y => decide (x ≤ y) from PySem.W.dataLe_int (fun x : Int => x)] at h
  exact h

/-! ### sum(tuple), x in a sequence of ints -/
def rSumT (K : PySem.W.Frag) : List V → Hp → VK → Prop := fun vs H Q => ∃ (a : Addr) (ns : List Int), vs = [V.ref a] ∧ SqT K H a (ns.map V.int) ∧ Q (.int ns.sum) H
theorem cr_sumT (hc : X.calm = true) : CallR X (.builtin "sum") (rSumT X.K) := by
  intro pins s σ H vs us Q I r h
  obtain ⟨a, ns, rfl, hs, q⟩ := h
  obtain ⟨its, rv, ht, _⟩ := I.tuple hs
  rw [Vals.ref1 r]
  have hi : IntsAre its ns := rv.ints
  obtain ⟨xs, hx⟩ := hi.allInts.items
  have hn : numsOf its.toArray.toList = ns := hi.numsOf
  have ht' : s.heap.IsTuple a its.toArray := ht
  rw [hx] at ht' hn
  rw [nums_intItems] at hn
  refine PySem.W.ktm_sumG (I.ok.hd hc) ht' fun h' tk t' hk => ⟨.int ns.sum, H, I.kept hk, ⟨t', ?_⟩, q⟩
  rw [preSum_eq, List.take_of_length_le (by simp), hn]
theorem ev_sumT {ns : List Int} (hc : X.calm = true) (hm : X.mg "sum" = none) (ha : EvR T X es a (Eq (.tuple (ns.map .int)))) (hg : Gl X "sum" := by rfl)
    (he : starEach [a] X.env = (false, eval a X.env) :: starEach [] X.env := by rfl) (hpl : (backTo pos (starEach [] X.env)).any (·.1) = false := by rfl) : Ev T X es (.Call (.Name "sum" p1) [a] [] pos) (Eq (.int ns.sum)) :=
  ev_cB1 (cr_sumT hc) hm boot_sum ha (fun p H v d Q g r q k => by
    subst q
    obtain ⟨a, xs, e, hq, rs⟩ := r.tup
    have ex := rs.ints
    subst e ex
    exact ⟨a, ns, rfl, hq, k H _ _ (.refl H) (.int _) rfl⟩) hg (he := he) (hpl := hpl)
theorem inV_int (i : Int) : ∀ ns : List Int, inV (.int i) (ns.map V.int) = decide (i ∈ ns)
  | [] => rfl
  | j :: ns => by
    have ih := inV_int i ns
    unfold inV at ih ⊢
    rw [List.map_cons, List.any_cons, ih]
    by_cases h : j = i
    · subst h
      simp [eqV]
    · have h' : ¬ i = j := fun z => h z.symm
      simp [eqV, h, h']
theorem flat_ints (ns : List Int) : (ns.map V.int).all flatV = true := by
  induction ns with
  | nil => rfl
  | cons i ns ih => rw [List.map_cons, List.all_cons, ih] <;> rfl
theorem cv_inI {i : Int} {ns : List Int} (bl : Bool) (ha : Ev T X es a (Eq (.int i))) (hb : EvR T X es b (Eq (seqD bl (ns.map .int)))) : Cv T X es .In a b (Eq (.bool (decide (i ∈ ns)))) :=
  cv_op op_in_seq ha.r hb fun p H x y dx dy Q g r1 r2 q1 q2 k => by
    subst q1 q2
    have hx := r1.int_v
    subst hx
    cases bl with
    | true =>
      obtain ⟨a, xs, e, hq, rs⟩ := RpR.lst r2
      have ex := rs.ints
      subst e ex
      exact ⟨a, _, rfl, .inl (.of hq), rfl, flat_ints ns, by rw [inV_int]; exact k H _ _ (.refl H) (.bl _) rfl⟩
    | false =>
      obtain ⟨a, xs, e, hq, rs⟩ := RpR.tup r2
      have ex := rs.ints
      subst e ex
      exact ⟨a, _, rfl, .inr hq, rfl, flat_ints ns, by rw [inV_int]; exact k H _ _ (.refl H) (.bl _) rfl⟩
theorem cv_niI {i : Int} {ns : List Int} (bl : Bool) (ha : Ev T X es a (Eq (.int i))) (hb : EvR T X es b (Eq (seqD bl (ns.map .int)))) : Cv T X es .NotIn a b (Eq (.bool (!decide (i ∈ ns)))) :=
  cv_op op_notIn_seq ha.r hb fun p H x y dx dy Q g r1 r2 q1 q2 k => by
    subst q1 q2
    have hx := r1.int_v
    subst hx
    cases bl with
    | true =>
      obtain ⟨a, xs, e, hq, rs⟩ := RpR.lst r2
      have ex := rs.ints
      subst e ex
      exact ⟨a, _, rfl, .inl (.of hq), rfl, flat_ints ns, by rw [inV_int]; exact k H _ _ (.refl H) (.bl _) rfl⟩
    | false =>
      obtain ⟨a, xs, e, hq, rs⟩ := RpR.tup r2
      have ex := rs.ints
      subst e ex
      exact ⟨a, _, rfl, .inr hq, rfl, flat_ints ns, by rw [inV_int]; exact k H _ _ (.refl H) (.bl _) rfl⟩
def rNi0 (K : PySem.W.Frag) : R2 := fun x y H Q => ∃ p, y = .ref p ∧ SqT K H p [] ∧ Q (.bl true) H
theorem op_ni0 : OpR X (compareOp .NotIn) (rNi0 X.K) := by
  intro pins s σ H x y v u Q I rx ry h
  obtain ⟨p, rfl, hq, q⟩ := h
  cases ry
  obtain ⟨its, r, pl, hz⟩ := I.tuple hq
  cases r
  exact SeqAt.notIn_tupleAt (fun _ => false) pl (fun w hw => by simp at hw) ⟨.bl true, H, I, by simp; exact (show L2.RelV (.bl true) (.bool true) from rfl), q⟩
/-- x not in () -/
theorem cv_ni0 {S : D → Prop} (ha : EvR T X es a S) (hb : EvR T X es b (Eq (.tuple []))) : Cv T X es .NotIn a b (Eq (.bool true)) :=
  cv_op op_ni0 ha hb fun p H x y dx dy Q g r1 r2 q1 q2 k => by
    subst q2
    obtain ⟨a, xs, e, hq, rs⟩ := r2.tup
    cases rs
    subst e
    exact ⟨a, rfl, hq, k H _ _ (.refl H) (.bl _) rfl⟩
end
end DL
end
section
set_option Elab.async false
set_option linter.all false
set_option autoImplicit false
set_option maxRecDepth 100000
set_option maxHeartbeats 2000000
/-! sorted(dict), sorted(set(tuple)), tuple[::-1]. -/
namespace DL
open PySem PySem.Spec L2
open PyProof.Rows hiding St
open PySem.W (AllAlike Sortable dataLe EachIs alike)

/-! ### sorted(d): the keys are tuples of ints -/
section
variable {X : Cx}
def rSrtD (K : PySem.W.Frag) : List V → Hp → VK → Prop := fun vs H Q => ∃ (d : Addr) (kvs : KD), vs = [V.ref d] ∧ H d = some (.dT (encK kvs)) ∧ (∀ q ∈ kvs, q.1 ≠ []) ∧
  ∀ (ys : List V) (p : Addr), Paired (fun y k => ∃ b, y = V.ref b ∧ H b = some (.tup (k.map V.int))) ys ((kvs.map (·.1)).mergeSort (dataLe false encT)) → H p = none → Q (.ref p) (upd H p (.lst ys))
theorem keys_ref {H : Hp} : ∀ {kvs : KD} {xs : List (List Key × Addr × Value)}, KT H (encK kvs) xs → Paired (fun (y : V) (k : List Int) => ∃ b, y = V.ref b ∧ H b = some (.tup (k.map V.int))) (xs.map fun x => V.ref x.2.1) (kvs.map (·.1))
  | [], _, h => by
    cases h
    exact .nil
  | q :: kvs, _, h => by
    cases h with
    | cons h t =>
      refine .cons ⟨_, rfl, ?_⟩ (keys_ref t)
      have e := h.2.1
      rw [← kV_inl]
      exact e
theorem refs_vals : ∀ xs : List (List Key × Addr × Value), Vals (xs.map fun x => V.ref x.2.1) (xs.map fun x => Value.ref x.2.1)
  | [] => .nil
  | _ :: r => .cons rfl (refs_vals r)
theorem cr_srtD {n : Nat} (hr : Room n X.A) (hc : X.calm = true) : CallR X (.builtin "sorted") (rSrtD X.K) := by
  intro pins s σ H vs us Q I r h
  obtain ⟨d, kvs, rfl, hd, h0, q⟩ := h
  rw [Vals.ref1 r]
  obtain ⟨z, lo, xs, rel, o, en, ep, ho, hx, hdt, he, his, hn⟩ := dt_of I.hok hd
  have l1 : en.size = xs.length := size_of_entries he
  have l2 : (encK kvs).length = xs.length := Paired.length rel
  have hnL : en.size ≤ sizeLine := by omega
  refine Calls.call_function_entry PyProof.Rows.kind_sorted PyProof.Rows.plain_sorted PyProof.Rows.entry_sorted (PyProof.Rows.args_sorted1 _) ?_
  unfold Builtin.«sorted»
  refine wpAny_bind (m := checkCount "sorted" 1 1 _) (wpAny_pure ?_)
  refine wpAny_bind (PySem.W.kdu_collect (A := X.A.in1) (kdl_raw lo hx hdt) (I.ok.hd hc) ho hnL fun h' tk acc kp it => ?_)
  have ea : acc.toList = xs.map fun x => Value.ref x.2.1 := by
    refine List.ext_getElem? fun j => ?_
    rw [List.getElem?_map]
    by_cases hj : j < xs.length
    · have hj2 : j < acc.toList.length := by rw [Array.length_toList, it.1, l1]; exact hj
      rw [List.getElem?_eq_getElem hj2, List.getElem?_eq_getElem hj]
      obtain ⟨e, hen, hv⟩ := it.2 j acc.toList[j] (by rw [← Array.getElem?_toList]; exact List.getElem?_eq_getElem hj2)
      have qe := entry_at he j
      rw [hen, List.getElem?_eq_getElem hj] at qe
      have e2 : e = entryOfKey (tupleKind (mixKind X.prog X.w)) xs[j] := Option.some.inj qe
      rw [hv, e2]
      rfl
    · rw [List.getElem?_eq_none (by rw [Array.length_toList, it.1, l1]; omega), List.getElem?_eq_none (by omega)]
      rfl
  have I1 : Inv X pins σ H { s with heap := h', toks := tk } := I.kept kp
  refine wpAny_bind (wpAny_newList ?_ (by rw [ea, List.length_map]; omega))
  rw [ea]
  generalize hL : h'.objs.size = L
  generalize hh2 : h'.push (seqObj "list" (xs.map fun x => Value.ref x.2.1).toArray 0) = h2
  have hoL : h2.get? L = some (seqObj "list" (xs.map fun x => Value.ref x.2.1).toArray 0) := by
    rw [← hh2, ← hL]
    exact Heap.get?_push_size _ rfl
  have k2 : ∀ b u, h'.get? b = some u → h2.get? b = some u := fun b u e => by
    rw [← hh2]
    exact Heap.get?_push_of_some _ e
  have I2 : Inv X pins σ H { s with heap := h2, toks := tk } := I.kept fun b u e => k2 b u (kp b u e)
  have pr := keys_ref rel
  have rv := refs_vals xs
  have e1 := each_of (s := s) pr rv
  have old : ∀ b u, s.heap.get? b = some u → b ≠ L := fun b u e => by
    rw [← hL]
    exact Nat.ne_of_lt (Heap.lt_size (kp b u e))
  have e2 : EachIs (fun v (k : List Int) => ∃ as, Reads h2 v (encT k) as ∧ L ∉ as) (xs.map fun x => Value.ref x.2.1) (kvs.map (·.1)) := by
    clear ea hoL I1 e1
    have key : ∀ {ys : List V} {us : List Value} {ks : List (List Int)}, Paired (fun (y : V) (k : List Int) => ∃ b, y = V.ref b ∧ H b = some (.tup (k.map V.int))) ys ks → Vals ys us → EachIs (fun v (k : List Int) => ∃ as, Reads h2 v (encT k) as ∧ L ∉ as) us ks := by
      intro ys us ks hp
      induction hp generalizing us with
      | nil =>
        intro rv
        cases rv
        exact .nil
      | @cons y k ys ks h t ih =>
        intro rv
        cases rv with
        | cons r rr =>
          obtain ⟨b, rfl, hb⟩ := h
          cases r
          refine .cons ?_ (ih rr)
          have hdp : Dp X.K H (.ref b) (encT k) := .tup (.inl (.inl hb)) (by
            clear hb
            induction k with
            | nil => exact .nil
            | cons i k ih => exact .cons (.int i) ih)
          obtain ⟨as, ra⟩ := Dp.reads I2 _ _ _ hdp rfl
          refine ⟨as, ra, fun hm => ?_⟩
          obtain ⟨_, its, r2, p2⟩ := (show ObjOk X.prog X.w H s.heap b (.tup (k.map V.int)) from I.hok b _ hb)
          obtain ⟨ot, hot, hct, nt, hdt⟩ := p2
          cases ra with
          | tuple h1 h2' h3 h4 =>
            have ei := r2.ints
            have nil : ∀ {vs' : List Value} {ns : List Int} {as' : List Addr}, ReadsAll h2 vs' (ns.map .int) as' → as' = [] := by
              intro vs' ns as' hr
              induction ns generalizing vs' as' with
              | nil =>
                have hr' : ReadsAll h2 vs' [] as' := hr
                cases hr'
                rfl
              | cons i ns ih =>
                have hr' : ReadsAll h2 vs' (.int i :: ns.map .int) as' := hr
                cases hr' with
                | cons h1 h2 =>
                  cases h1
                  rw [ih h2]
                  rfl
            have := nil h4
            rw [this] at hm
            cases hm
    exact key pr rv
  show wpAny _ _ _ _ _ { s with heap := h2, toks := tk }
  have hbs : (kvs.map (·.1)).length ≤ sizeLine := by
    rw [List.length_map, ← encK_length]
    exact z
  refine wpAny_bind (wpAny_holding (PySem.W.list_sort_data (s := { s with heap := h2, toks := tk }) hoL e1 e2 (AllAlike.of fun b b' => alike_tI b b') (.inl fun dd hdd => by
    obtain ⟨k, hk, rfl⟩ := List.mem_map.mp hdd
    obtain ⟨q, hq, rfl⟩ := List.mem_map.mp hk
    cases e : q.1 with
    | nil => exact absurd e (h0 q hq)
    | cons x r => exact ⟨_, _, rfl⟩) hbs (fun b hb => ?_) fun out hol eo => ?_))
  · have h1 := hr.un
    have h2 := encT_depth b
    have h3 : X.A.in1.units = X.A.units + 1 := rfl
    omega
  · obtain ⟨ys, v1, p1⟩ := of_each eo
    obtain ⟨ep', he'⟩ := PyProof.Rows.sortedHeap_at (vs := xs.map fun x => Value.ref x.2.1) (out := out.toArray) hoL
    have hlen : ys.length ≤ sizeLine := by
      rw [v1.length, hol]
      exact hbs
    have old' : ∀ b u, h'.get? b = some u → b ≠ L := fun b u e => by
      rw [← hL]
      exact Nat.ne_of_lt (Heap.lt_size e)
    refine wpAny_pure ⟨_, rfl, .ref L, upd H L (.lst ys), I1.laid (t' := tk) (fun b u e => ?_) (Nat.le_of_eq hL) ⟨hlen, out, ep', v1, he'⟩, rfl, q ys L p1 (I1.hok.fresh (Nat.le_of_eq hL))⟩
    have e' : h'.get? b = some u := e
    show (sortedHeap h2 L (xs.map fun x => Value.ref x.2.1) out.toArray).get? b = some u
    rw [PyProof.Rows.sortedHeap_old (old' b u e') (Heap.lt_size (k2 b u e'))]
    exact k2 b u e'
end
section
variable {T : Addr → Prop} {X : Cx} {es : List Ent} {e a b : Expr} {pos p1 : Pos} {n : Nat}
theorem ints_rps {K : PySem.W.Frag} {O : Addr → Prop} {H : Hp} (k : List Int) : Rps K O H (k.map V.int) (k.map .int) := Rps.of_ints k
theorem ev_srtD {kvs : KD} (hr : Room n X.A) (hc : X.calm = true) (hm : X.mg "sorted" = none) (ha : EvR T X es a (Eq (dicD kvs))) (h0 : ∀ q ∈ kvs, q.1 ≠ []) (hg : Gl X "sorted" := by rfl)
    (he : starEach [a] X.env = (false, eval a X.env) :: starEach [] X.env := by rfl) (hpl : (backTo pos (starEach [] X.env)).any (·.1) = false := by rfl) : Ev T X es (.Call (.Name "sorted" p1) [a] [] pos) (Eq (.list (((kvs.map (·.1)).mergeSort (dataLe false encT)).map encT))) :=
  ev_cB1 (cr_srtD hr hc) hm boot_sorted ha (fun p H v d Q g r q k => by
    subst q
    obtain ⟨c, e, hd⟩ := r.dic
    subst e
    refine ⟨c, kvs, rfl, hd, h0, fun ys q hpy hn => k _ _ _ (gr_new hn) (rp_newL g hn (paired_rps ?_)) rfl⟩
    clear hn k
    generalize (kvs.map (·.1)).mergeSort (dataLe false encT) = bs at hpy
    induction hpy with
    | nil => exact .nil
    | cons h t ih =>
      obtain ⟨b, rfl, hb⟩ := h
      exact .cons (.tup (.inl ⟨fun z => g.nt b _ z hb, hb⟩) (Rps.of_ints _)) ih) hg (he := he) (hpl := hpl)

/-! ### sorted(set(t)) -/
def insU (x : Int) : List Int → List Int
  | [] => [x]
  | y :: l => if x < y then x :: y :: l else if x = y then y :: l else y :: insU x l
def uniq : List Int → List Int
  | [] => []
  | x :: l => insU x (uniq l)
theorem insU_mem {x z : Int} : ∀ {l : List Int}, z ∈ insU x l ↔ z = x ∨ z ∈ l
  | [] => by simp [insU]
  | y :: l => by
    unfold insU
    by_cases h : x < y
    · rw [if_pos h]
      simp
    · rw [if_neg h]
      by_cases h2 : x = y
      · rw [if_pos h2, h2]
        simp
      · rw [if_neg h2, List.mem_cons, insU_mem, List.mem_cons]
        constructor
        · rintro (h | h | h)
          · exact .inr (.inl h)
          · exact .inl h
          · exact .inr (.inr h)
        · rintro (h | h | h)
          · exact .inr (.inl h)
          · exact .inl h
          · exact .inr (.inr h)
theorem insU_srt {x : Int} : ∀ {l : List Int}, l.Pairwise (· < ·) → (insU x l).Pairwise (· < ·)
  | [], _ => by simp [insU]
  | y :: l, h => by
    obtain ⟨h1, h2⟩ := List.pairwise_cons.mp h
    unfold insU
    by_cases q : x < y
    · rw [if_pos q]
      refine List.pairwise_cons.mpr ⟨fun z hz => ?_, h⟩
      rcases List.mem_cons.mp hz with rfl | hz
      · exact q
      · exact Int.lt_trans q (h1 z hz)
    · rw [if_neg q]
      by_cases q2 : x = y
      · rw [if_pos q2]
        exact h
      · rw [if_neg q2]
        refine List.pairwise_cons.mpr ⟨fun z hz => ?_, insU_srt h2⟩
        rcases insU_mem.mp hz with rfl | hz
        · omega
        · exact h1 z hz
theorem uniq_mem {z : Int} : ∀ {l : List Int}, z ∈ uniq l ↔ z ∈ l
  | [] => by simp [uniq]
  | y :: l => by
    unfold uniq
    rw [insU_mem, uniq_mem, List.mem_cons]
theorem uniq_srt : ∀ l : List Int, (uniq l).Pairwise (· < ·)
  | [] => .nil
  | y :: l => insU_srt (uniq_srt l)
theorem srt_ext : ∀ {l m : List Int}, l.Pairwise (· < ·) → m.Pairwise (· < ·) → (∀ z, z ∈ l ↔ z ∈ m) → l = m
  | [], [], _, _, _ => rfl
  | [], y :: m, _, _, h => absurd ((h y).mpr List.mem_cons_self) (by simp)
  | x :: l, [], _, _, h => absurd ((h x).mp List.mem_cons_self) (by simp)
  | x :: l, y :: m, h1, h2, h => by
    obtain ⟨a1, a2⟩ := List.pairwise_cons.mp h1
    obtain ⟨b1, b2⟩ := List.pairwise_cons.mp h2
    have e : x = y := by
      rcases List.mem_cons.mp ((h x).mp List.mem_cons_self) with q | q
      · exact q
      · rcases List.mem_cons.mp ((h y).mpr List.mem_cons_self) with q2 | q2
        · exact q2.symm
        · have := a1 y q2
          have := b1 x q
          omega
    subst e
    rw [srt_ext a2 b2 fun z => ?_]
    constructor
    · intro hz
      rcases List.mem_cons.mp ((h z).mp (List.mem_cons_of_mem _ hz)) with q | q
      · have := a1 z hz
        omega
      · exact q
    · intro hz
      rcases List.mem_cons.mp ((h z).mpr (List.mem_cons_of_mem _ hz)) with q | q
      · have := b1 z hz
        omega
      · exact q
theorem uniq_iff {l : List Int} : uniq l = l ↔ l.Pairwise (· < ·) := ⟨fun h => by rw [← h]; exact uniq_srt l, fun h => srt_ext (uniq_srt l) h fun _ => uniq_mem⟩
def rSetT (K : PySem.W.Frag) (w : World) : List V → Hp → VK → Prop := fun vs H Q => ∃ (a : Addr) (ns : List Int), vs = [V.ref a] ∧ SqT K H a (ns.map V.int) ∧ ns.length ≤ 1000 ∧ ∀ (p : Addr) (c : Nat), H p = none → c ≤ ns.length → Q (.ref p) (upd H p (SetO w p (fun j => decide (j ∈ ns)) c))
theorem cr_setT (hc : X.calm = true) : CallR X (.type "set") (rSetT X.K X.w) := by
  intro pins s σ H vs us Q I r h
  obtain ⟨a, ns, rfl, hs, hl, q⟩ := h
  obtain ⟨its, rv, ht, _⟩ := I.tuple hs
  rw [Vals.ref1 r]
  refine call_set_tupI ns (I.ok.hd hc) (show s.heap.IsTuple a its.toArray from ht) (ints_of_vals rv) (by unfold scanBound; omega) fun h' tk c R hcn k => ?_
  exact ⟨.ref s.heap.objs.size, _, I.laid (t' := tk) k (Nat.le_refl _) (setO_new R), rfl, q _ c (I.hok.fresh (Nat.le_refl _)) hcn⟩
theorem ev_srtSet {ns : List Int} {p2 pos2 : Pos} (hc : X.calm = true) (hm : X.mg "sorted" = none) (hm2 : X.mg "set" = none) (ha : Ev T X es a (Eq (.tuple (ns.map .int)))) (hl : ns.length < 64) (hg : Gl X "sorted" := by rfl) (hg2 : Gl X "set" := by rfl)
    (he : starEach [.Call (.Name "set" p2) [a] [] pos2] X.env = (false, eval (.Call (.Name "set" p2) [a] [] pos2) X.env) :: starEach [] X.env := by rfl) (he2 : starEach [a] X.env = (false, eval a X.env) :: starEach [] X.env := by rfl) (hpl : (backTo pos (starEach [] X.env)).any (·.1) = false := by rfl) (hpl2 : (backTo pos2 (starEach [] X.env)).any (·.1) = false := by rfl) :
    Ev T X es (.Call (.Name "sorted" p1) [.Call (.Name "set" p2) [a] [] pos2] [] pos) (Eq (.list ((uniq ns).map .int))) := fun p H σ Q g o k =>
  wE_of (pe_callB (cr_sortedSet hc) hg hm boot_sorted (pa_cons (pe_callTy (cr_setT hc) hg2 hm2 PyProof.Rows.boot_set (pa_cons pe_w pa_nil he2) (by decide) (by decide) he2 hpl2) pa_nil he) (by decide) (by decide) he hpl) (ha p H σ _ g o fun H1 v d g1 r1 q1 => by
    subst q1
    obtain ⟨c, xs, e, t, rs⟩ := r1.tup_v
    have ex := rs.ints
    subst e ex
    refine ⟨c, ns, rfl, t.sq, by omega, fun q m hq hm' => ⟨q, _, m, rfl, upd_same, by omega, fun ms q2 h1 h2 h3 hq2 => ?_⟩⟩
    have eU : ms = uniq ns := srt_ext h1 (uniq_srt ns) fun z => by rw [h2, uniq_mem, decide_eq_true_iff]
    subst eU
    have G2 := (g.go g1).go (gr_new (o := SetO X.w q (fun j => decide (j ∈ ns)) m) hq)
    exact k _ _ _ ((g1.trans (gr_new hq)).trans (gr_new hq2)) (rp_newL G2 hq2 (Rps.of_ints _)) rfl)

/-! ### t[::-1] -/
theorem adjust_rev (n : Nat) : Builtin.Slice.sliceAdjust none none (-1) (n : Int) = ((n : Int) - 1, -1) := by
  unfold Builtin.Slice.sliceAdjust
  simp
theorem places_rev (n : Nat) : Builtin.Slice.slicePlaces ((n : Int) - 1) (-1) (-1) = n := by
  unfold Builtin.Slice.slicePlaces
  have h1 : ¬ ((-1 : Int) > 0) := by omega
  simp only [h1, if_false]
  by_cases h : (n : Int) - 1 > -1
  · simp [h]
    try omega
  · simp [h]
    try omega
theorem fm_some {α β : Type} {f : α → Option β} {g : α → β} : ∀ {r : List α}, (∀ m ∈ r, f m = some (g m)) → r.filterMap f = r.map g
  | [], _ => rfl
  | x :: r, h => by
    rw [List.filterMap_cons_some (h x List.mem_cons_self), List.map_cons, fm_some fun m hm => h m (List.mem_cons_of_mem _ hm)]
theorem pick_rev (xs : Array Value) : ((List.range xs.size).filterMap fun (m : Nat) => xs[(((xs.size : Int) - 1) + (m : Int) * (-1)).toNat]?) = xs.toList.reverse := by
  rw [fm_some (g := fun m => xs.toList.reverse.getD m .none) (fun m hm => ?_)]
  · refine List.ext_getElem? fun j => ?_
    rw [List.getElem?_map]
    by_cases hj : j < xs.size
    · have h2 : j < xs.toList.reverse.length := by rw [List.length_reverse, Array.length_toList]; exact hj
      rw [List.getElem?_range hj, List.getElem?_eq_getElem h2]
      simp only [Option.map_some, List.getD_eq_getElem?_getD, List.getElem?_eq_getElem h2, Option.getD_some]
    · rw [List.getElem?_eq_none (by rw [List.length_range]; omega), List.getElem?_eq_none (by rw [List.length_reverse, Array.length_toList]; omega)]
      rfl
  · have hm' : m < xs.size := List.mem_range.mp hm
    have e : (((xs.size : Int) - 1) + (m : Int) * (-1)).toNat = xs.size - 1 - m := by omega
    have h2 : m < xs.toList.reverse.length := by rw [List.length_reverse, Array.length_toList]; exact hm'
    rw [e, List.getD_eq_getElem?_getD, List.getElem?_eq_getElem h2, Option.getD_some, List.getElem_reverse, Array.getElem?_eq_getElem (by omega)]
    simp
theorem getItem_rev {prog : Program} {w : World} {A : Around} {E : Value → Shared → Prop} {s : Shared} {t sl : Addr} {items : Array Value} {vl vu vs : Value} {Q : Value → Shared → Prop} (ht : IsTup s.heap t items) (hs : s.heap.IsSliceOf sl vl vu vs) (pl : IsPart vl none) (pu : IsPart vu none) (ps : IsPart vs (some (-1)))
    (h : Q (.ref s.heap.objs.size) { s with heap := s.heap.push { cls := .type "tuple", data := .seq items.toList.reverse.toArray } }) (hsz : items.size ≤ sizeLine) : wpAny (model prog w) A (getItem (.ref t) (.ref sl)) Q E s := by
  have hz : sizeOk (.seq items.toList.reverse.toArray) := by
    show items.toList.reverse.toArray.size ≤ sizeLine
    rw [List.size_toArray, List.length_reverse, Array.length_toList]
    exact hsz
  obtain ⟨os, hos, hcs, hds⟩ := id hs
  have hTs : s.TypeIs (.ref sl) "slice" := ⟨os, hos, hcs⟩
  unfold getItem
  try with_reducible refine wpAny_holding ?_
  first | refine wpAny_bind (wpAny_pure ?_) | skip
  refine wpAny_bind (wpAny_sequenceKey ht.typeIs (by decide) ?_)
  refine wpAny_bind (wpAny_callSpecial?_slot (name := Str.ofString "__getitem__") ht.typeIs PyProof.Rows.slot_tuple_getitem
    (wpAny_call_entry PyProof.Rows.slot_tuple_getitem ht.typeIs entry_tuple_getitem ?_ (args_tuple_getitem _ _)))
  show wpAny _ _ (Builtin.Tuple.tupleItemsOf (.ref t) >>= _) _ _ s
  refine wpAny_bind (PyProof.Rows.tupleItemsOf_ ht ?_)
  refine wpAny_bind (wpAny_typeOf hTs ?_)
  rw [if_pos (by decide)]
  refine wpAny_bind ?_
  unfold Builtin.Slice.sliceApplied Builtin.Slice.sliceFields
  refine wpAny_bind (wpAny_bind (wpAny_field hos hds (x := vl) rfl (wpAny_bind (wpAny_field hos hds (x := vu) rfl (wpAny_bind (wpAny_field hos hds (x := vs) rfl (wpAny_pure ?_)))))))
  refine wpAny_bind (HT.slicePart_ ps ?_)
  show wpAny _ _ (if ((-1 : Int) == 0) = true then _ else _) _ _ s
  rw [if_neg (by decide)]
  refine wpAny_bind (HT.slicePart_ pl (wpAny_bind (HT.slicePart_ pu (wpAny_bind (wpAny_pure ?_)))))
  show wpAny _ _ (match Builtin.Slice.sliceAdjust none none (-1) (items.size : Int) with | (lo, hi) => pure (lo, (-1 : Int), Builtin.Slice.slicePlaces lo hi (-1))) _ _ s
  rw [adjust_rev]
  show wpAny _ _ (pure (((items.size : Int) - 1), (-1 : Int), Builtin.Slice.slicePlaces ((items.size : Int) - 1) (-1) (-1))) _ _ s
  rw [places_rev]
  refine wpAny_pure ?_
  show wpAny _ _ (if (((items.size : Int) - 1) == 0 && (-1 : Int) == 1 && items.size == items.size) = true then _ else _) _ _ s
  rw [if_neg (by simp), pick_rev]
  first
    | exact wpAny_bind (m := Builtin.Tuple.tupleExact _) (wpAny_newObj_type (wpAny_pure ⟨_, rfl, wpAny_pure h⟩) hz)
    | exact wpAny_bind (m := Builtin.Tuple.tupleExact _) (wpAny_newObj_type (wpAny_bind (wpAny_pure (wpAny_pure ⟨_, rfl, wpAny_pure h⟩))) hz)
    | exact wpAny_bind (wpAny_bind (m := Builtin.Tuple.tupleExact _) (wpAny_newObj_type (wpAny_pure (wpAny_pure ⟨_, rfl, wpAny_pure h⟩)) hz))
    | exact wpAny_bind (wpAny_bind (m := Builtin.Tuple.tupleExact _) (wpAny_newObj_type (wpAny_pure ⟨_, rfl, wpAny_pure h⟩) hz))
theorem ev_revT {ds : List D} {j : Nat} {q1 q2 q3 : Pos} (ha : Ev T X es a (Eq (.tuple ds))) : Ev T X es (.Subscript a (.Slice none none (some (.UnaryOp .USub (.Constant (.int 1) j q1) q2)) q3) pos) (Eq (.tuple ds.reverse)) := fun p H σ Q g o k pins s I => by
  refine Subscript_ (thn (ha p H σ (fun x H1 => Gr0 p H H1 ∧ Rp X.K p.own H1 x (.tuple ds)) g o (fun H1 v d g1 r1 q1 => by subst q1; exact ⟨g1, r1⟩) pins s I) fun v s1 ⟨x, H1, I1, r1, g1, rp⟩ => ?_)
  obtain ⟨c, xs, ex, t, rs⟩ := rp.tup_v
  subst ex
  cases r1
  have hst : PO X (some (.UnaryOp .USub (.Constant (.int 1) j q1) q2)) (tPart (tUn (rU fun i => .int (-i)) (tC (.int 1)))) := po_some (pe_un un_neg pe_int)
  refine wpAny_Slice (thn (po_none.run pins s1 σ H1 (fun o H2 => o = none ∧ H2 = H1) I1 ⟨rfl, rfl⟩) fun vl s2 ⟨l, H2, I2, pl, el, e2⟩ => ?_)
  subst el e2
  refine thn (po_none.run pins s2 σ H2 (fun o H3 => o = none ∧ H3 = H2) I2 ⟨rfl, rfl⟩) fun vu s3 ⟨u, H3, I3, pu, eu, e3⟩ => ?_
  subst eu e3
  refine thn (hst.run pins s3 σ H3 (fun o H4 => o = some (-1) ∧ H4 = H3) I3 ⟨1, rfl, -1, rfl, rfl, rfl⟩) fun vs s4 ⟨o, H4, I4, ps, eo, e4⟩ => ?_
  subst eo e4
  have I5 : Inv X pins σ H4 { s4 with heap := s4.heap.push { cls := .type "slice", data := .fields #[vl, vu, vs] } } := I4.kept (t' := s4.toks) fun b ob q => Heap.get?_push_of_some _ q
  obtain ⟨its, r, ht, hz⟩ := I5.tuple t.sq
  have hlen := r.length
  show wpAny (model X.prog X.w) X.A (subscriptTail a (.Slice none none (some (.UnaryOp .USub (.Constant (.int 1) j q1) q2)) q3) (.ref c) (.ref s4.heap.objs.size)) (EP X pins σ Q) X.xe { s4 with heap := s4.heap.push { cls := .type "slice", data := .fields #[vl, vu, vs] } }
  refine tail_any (ops := [.ref c, .ref s4.heap.objs.size]) ht.typeIs (PyProof.Rows.slot_tuple_getitem.lookup) ?_ (by with_unfolding_all rfl)
  refine getItem_rev ht (Heap.IsSliceOf.new _ vl vu vs) pl pu ps ?_ (by rw [List.size_toArray]; omega)
  have hn : H4 (s4.heap.push { cls := .type "slice", data := .fields #[vl, vu, vs] }).objs.size = none := I5.hok.fresh (Nat.le_refl _)
  refine ⟨.ref _, _, I5.laid (t' := s4.toks) (o := .tup xs.reverse) (fun b ob q => Heap.get?_push_of_some _ q) (Nat.le_refl _) ?_, rfl, k _ _ _ (g1.trans (gr_new hn)) (rp_newT (g.go g1) hn ?_) rfl⟩
  · exact ⟨by rw [List.length_reverse]; exact hz, _, r.reverse, ⟨_, Heap.get?_push_size _ rfl, rfl, 0, rfl⟩⟩
  · clear hn r ht hz hlen t
    have key : ∀ {xs : List V} {ds : List D}, Rps X.K p.own H4 xs ds → Rps X.K p.own H4 xs.reverse ds.reverse := by
      intro xs ds h
      induction xs generalizing ds with
      | nil =>
        cases h
        exact .nil
      | cons x xs ih =>
        cases h with
        | cons h t =>
          rw [List.reverse_cons, List.reverse_cons]
          exact (ih t).append (.cons h .nil)
    exact key rs
end
end DL
end
section
set_option Elab.async false
set_option linter.all false
set_option autoImplicit false
set_option maxRecDepth 100000
set_option maxHeartbeats 2000000
/-! A small calculus over the bare state: for what a generator's element does, whatever frames stand. -/
namespace DL
open PySem PySem.Spec L2
open PyProof.Rows hiding St

abbrev Kp (h h' : Heap) : Prop := ∀ b o, h.get? b = some o → h'.get? b = some o
theorem Kp.trans {h h' h'' : Heap} (a : Kp h h') (b : Kp h' h'') : Kp h h'' := fun c o e => b c o (a c o e)
theorem keeps_kp {s s' : Shared} (k : Keeps s s') : Kp s.heap s'.heap := by
  obtain ⟨h', tk, rfl, q⟩ := k
  exact q
theorem keeps_trans {s s' s'' : Shared} (a : Keeps s s') (b : Keeps s' s'') : Keeps s s'' := by
  obtain ⟨h', tk, rfl, q⟩ := a
  obtain ⟨h'', tk', rfl, q'⟩ := b
  exact ⟨h'', tk', rfl, fun c o e => q' c o (q c o e)⟩
def RdX (h : Heap) (v : Value) (d : D) : Prop := ∃ as, Reads h v d as
theorem RdX.kp {h h' : Heap} {v : Value} {d : D} (r : RdX h v d) (k : Kp h h') : RdX h' v d := let ⟨as, q⟩ := r; ⟨as, PyProof.Rows.Reads.keeps k q⟩
theorem RdX.int_v {h : Heap} {v : Value} {i : Int} (r : RdX h v (.int i)) : ∃ t, v = .int i t := by
  obtain ⟨as, q⟩ := r
  cases q
  exact ⟨_, rfl⟩
theorem RdX.tup_v {h : Heap} {v : Value} {ds : List D} (r : RdX h v (.tuple ds)) : ∃ (a : Addr) (its : Array Value), v = .ref a ∧ IsTup h a its ∧ its.size = ds.length ∧ ∀ (j : Nat) (d : D), ds[j]? = some d → ∃ u, its[j]? = some u ∧ RdX h u d := by
  obtain ⟨as, q⟩ := r
  cases q with
  | @tuple a o vs n xs as h1 h2 h3 h4 =>
    have key : ∀ {us : List Value} {ds : List D} {as : List Addr}, ReadsAll h us ds as → us.length = ds.length ∧ ∀ (j : Nat) d, ds[j]? = some d → ∃ u, us[j]? = some u ∧ RdX h u d := by
      intro us ds as r
      induction ds generalizing us as with
      | nil =>
        cases r
        exact ⟨rfl, fun j d e => by simp at e⟩
      | cons d ds ih =>
        cases r with
        | cons r1 r2 =>
          obtain ⟨l, q⟩ := ih r2
          refine ⟨congrArg Nat.succ l, fun j d' e => ?_⟩
          cases j with
          | zero =>
            simp at e
            subst e
            exact ⟨_, rfl, ⟨_, r1⟩⟩
          | succ j => exact q j d' (by simpa using e)
    obtain ⟨l, q⟩ := key h4
    refine ⟨a, vs, rfl, ⟨o, h1, h2, n, h3⟩, by rw [← l, Array.length_toList], fun j d e => ?_⟩
    obtain ⟨u, e1, r1⟩ := q j d e
    exact ⟨u, by rw [← Array.getElem?_toList]; exact e1, r1⟩

/-- what stands, wherever one is -/
structure Lg (K : PySem.W.Frag) (mg : Str → Option Value) (h : Heap) : Prop where
  kin : K.In h
  gns : h.Ns mainGlobals mg
  bns : ∃ mb, h.Ns builtinsNs mb ∧ ∀ x : Str, x ≠ "__name__" → mb x = bootBuiltins x
  lim : h.NoLimit
theorem Lg.kp {K : PySem.W.Frag} {mg : Str → Option Value} {h h' : Heap} (g : Lg K mg h) (k : Kp h h') : Lg K mg h' :=
  ⟨fun b o e => k b o (g.kin b o e), g.gns.keeps k, let ⟨mb, h1, h2⟩ := g.bns; ⟨mb, h1.keeps k, h2⟩, g.lim.keeps k⟩
/-- .. and in a frame -/
structure Lf (K : PySem.W.Frag) (mg : Str → Option Value) (env : Env) (m : Str → Option Value) (h : Heap) : Prop extends Lg K mg h where
  kind : env.scope.kind = .function
  glob : env.globals = mainGlobals
  blt : env.builtins = builtinsNs
  loc : h.Ns env.locals m

section
variable (P : Program) (w : World) (U Dp : Nat) (env : Env) (h : Heap)
def Le (e : Expr) (d : D) : Prop := ∀ (A : Around) (E : Value → Shared → Prop) (s : Shared), A.handled = none → A.depth ≤ Dp → A.units ≤ U → Kp h s.heap → wpAny (model P w) A (eval e env) (fun v s' => RdX s'.heap v d ∧ Keeps s s') E s
def Lt (e : Expr) (b : Bool) : Prop := ∀ (A : Around) (E : Value → Shared → Prop) (s : Shared), A.handled = none → A.depth ≤ Dp → A.units ≤ U → Kp h s.heap → wpAny (model P w) A (isTrue e env (eval e env)) (fun z s' => z = b ∧ Keeps s s') E s
def Lw (e : Expr) (b : Bool) : Prop := ∀ (wh : Sem Value) (A : Around) (E : Value → Shared → Prop) (s : Shared), A.handled = none → A.depth ≤ Dp → A.units ≤ U → Kp h s.heap → wpAny (model P w) A (isTrue e env wh) (fun z s' => z = b ∧ Keeps s s') E s
def Lb (sts : List Stmt) (d : D) : Prop := ∀ (A : Around) (E : Value → Shared → Prop) (s : Shared), A.handled = none → A.depth ≤ Dp → A.units ≤ U → Kp h s.heap → wpAny (model P w) A (execs sts env) (fun f s' => (∃ v, f = .ret v ∧ RdX s'.heap v d) ∧ Keeps s s') E s
end
section
variable {P : Program} {w : World} {U Dp : Nat} {env : Env} {h : Heap} {K : PySem.W.Frag} {mg m : Str → Option Value} {e a b c : Expr} {rest : List Expr} {pos : Pos} {d : D} {z y : Bool}
theorem le_nm {x : Str} {v : Value} (F : Lf K mg env m h) (hm : m x = some v) (r : RdX h v d) (hl : env.kindOf x = some .local := by rfl) (hd : (x == ("__debug__" : Str)) = false := by decide) : Le P w U Dp env h (.Name x pos) d := fun A E s _ _ _ k =>
  wpAny_Name (wpAny_loadName_local F.kind hl (F.loc.keeps k) hm ⟨r.kp k, GxR.keeps_refl s⟩) hd
theorem le_fr {x : Str} {v : Value} {c : Addr} (F : Lf K mg env m h) (hc : env.cells.lookup x = some c) (hv : h.IsCell c (some v)) (r : RdX h v d) (hl : env.kindOf x = some .free := by rfl) (hd : (x == ("__debug__" : Str)) = false := by decide) (hcd : (x == ("__classdict__" : Str)) = false := by decide) : Le P w U Dp env h (.Name x pos) d := fun A E s _ _ _ k =>
  wpAny_Name (wpAny_loadName_free F.kind hl hc (let ⟨o, e, q⟩ := hv; ⟨o, k c o e, q⟩) ⟨r.kp k, GxR.keeps_refl s⟩ hcd) hd
theorem le_int {i : Int} {j : Nat} : Le P w U Dp env h (.Constant (.int i) j pos) (.int i) := fun A E s _ _ _ k => wpAny_Constant_int ⟨⟨_, .int i _⟩, GxR.keeps_tok s _⟩
theorem le_bl {z : Bool} {j : Nat} : Le P w U Dp env h (.Constant (.bool z) j pos) (.bool z) := fun A E s _ _ _ k => wpAny_Constant_bool ⟨⟨_, .bool z⟩, GxR.keeps_refl s⟩
theorem le_globI {x : Str} {i : Int} {t : Tok} (F : Lf K mg env m h) (hm : mg x = some (.int i t)) (hg : env.kindOf x = some .globalImplicit := by rfl) (hd : (x == ("__debug__" : Str)) = false := by decide) : Le P w U Dp env h (.Name x pos) (.int i) := fun A E s _ _ _ k =>
  Calls.Name_function_global F.kind hg (Calls.loadGlobal_global (by rw [F.glob]; exact F.gns.keeps k) hm ⟨⟨_, .int i t⟩, GxR.keeps_refl s⟩) hd
theorem lt_of (he : Le P w U Dp env h e (.bool z)) (hw : ∀ whole, isTrue e env whole = (do let v ← whole; standAt e.pos; holding [v] (truthy v)) := by intro _; rfl) : Lt P w U Dp env h e z := fun A E s hh hd hu k =>
  isTrue_plain (wpAny_mono (he A E s hh hd hu k) (fun v s' ⟨⟨as, r⟩, q⟩ => by
    cases r
    exact wpAny_truthy_bool ⟨rfl, q⟩) fun _ _ x => x) (hw _)
theorem lt_not (ha : Lt P w U Dp env h a z) : Lt P w U Dp env h (.UnaryOp .Not a pos) (!z) := fun A E s hh hd hu k =>
  isTrue_not (wpAny_mono (ha A E s hh hd hu k) (fun c s' ⟨e, q⟩ => ⟨by rw [e], q⟩) fun _ _ x => x)
theorem lw_or1 (ha : Lt P w U Dp env h a z) : Lw P w U Dp env h (.BoolOp .Or [a] pos) z := fun wh A E s hh hd hu k =>
  isTrue_or (wpAny_mono (ha A E s hh hd hu k) (fun c s' ⟨e, q⟩ => by
    subst e
    cases c with
    | true => exact ite_tt ⟨rfl, q⟩
    | false => exact ite_ff (isTrue_or_nil ⟨rfl, q⟩)) fun _ _ x => x)
theorem lw_or (ha : Lt P w U Dp env h a z) (hb : z = false → Lw P w U Dp env h (.BoolOp .Or (b :: rest) pos) y) : Lw P w U Dp env h (.BoolOp .Or (a :: b :: rest) pos) (z || y) := fun wh A E s hh hd hu k =>
  isTrue_or (wpAny_mono (ha A E s hh hd hu k) (fun c s' ⟨e, q⟩ => by
    subst e
    cases c with
    | true => exact ite_tt ⟨rfl, q⟩
    | false => exact ite_ff (wpAny_mono (hb rfl wh A E s' hh hd hu (k.trans (keeps_kp q))) (fun v s2 ⟨e2, q2⟩ => ⟨by rw [e2] <;> rfl, keeps_trans q q2⟩) fun _ _ x => x)) fun _ _ x => x)
theorem lt_w (hw : Lw P w U Dp env h e z) : Lt P w U Dp env h e z := fun A E s hh hd hu k => hw _ A E s hh hd hu k
theorem le_one {op : BoolOp} (ha : Le P w U Dp env h a d) : Le P w U Dp env h (.BoolOp op [a] pos) d := fun A E s hh hd hu k => BoolOp_one (ha A E s hh hd hu k)
theorem le_and (ha : Le P w U Dp env h a (.bool z)) (hb : z = true → Le P w U Dp env h (.BoolOp .And (b :: rest) pos) (.bool y)) : Le P w U Dp env h (.BoolOp .And (a :: b :: rest) pos) (.bool (z && y)) := fun A E s hh hd hu k =>
  BoolOp_and (wpAny_mono (ha A E s hh hd hu k) (fun v s' ⟨⟨as, r⟩, q⟩ => by
    cases r
    refine wpAny_truthy_bool ?_
    cases z with
    | true => exact ite_tt (wpAny_mono (hb rfl A E s' hh hd hu (k.trans (keeps_kp q))) (fun v s2 ⟨r2, q2⟩ => ⟨r2, keeps_trans q q2⟩) fun _ _ x => x)
    | false => exact ite_ff ⟨⟨_, .bool false⟩, q⟩) fun _ _ x => x)
theorem le_not (ha : Le P w U Dp env h a (.bool z)) : Le P w U Dp env h (.UnaryOp .Not a pos) (.bool (!z)) := fun A E s hh hd hu k =>
  UnaryOp_ (wpAny_mono (ha A E s hh hd hu k) (fun v s' ⟨⟨as, r⟩, q⟩ => by
    cases r
    exact PyProof.Rows.not_of (wpAny_truthy_bool ⟨⟨_, .bool _⟩, q⟩)) fun _ _ x => x)
theorem le_cmpI {op : CmpOp} {i j : Int} {f : Int → Int → Bool} (hop : ∀ {A : Around} {E : Value → Shared → Prop} {s : Shared} {t u : Tok} {Q : Value → Shared → Prop}, Q (.bool (f i j)) s → wpAny (model P w) A (compareOp op (.int i t) (.int j u)) Q E s) (ha : Le P w U Dp env h a (.int i)) (hb : Le P w U Dp env h b (.int j)) (hm : behindInMarks op b = false) : Le P w U Dp env h (.Compare a [op] [b] pos) (.bool (f i j)) := fun A E s hh hd hu k =>
  wpAny_Compare1 (wpAny_mono (ha A E s hh hd hu k) (fun v s1 ⟨r1, q1⟩ => wpAny_mono (hb A E s1 hh hd hu (k.trans (keeps_kp q1))) (fun u s2 ⟨r2, q2⟩ => by
    obtain ⟨t, rfl⟩ := r1.int_v
    obtain ⟨t', rfl⟩ := r2.int_v
    exact hop ⟨⟨_, .bool _⟩, keeps_trans q1 q2⟩) fun _ _ x => x) fun _ _ x => x) hm
theorem le_lt {i j : Int} (ha : Le P w U Dp env h a (.int i)) (hb : Le P w U Dp env h b (.int j)) (hm : behindInMarks .Lt b = false := by exact nobehind _ (by decide) (by decide)) : Le P w U Dp env h (.Compare a [.Lt] [b] pos) (.bool (decide (i < j))) := le_cmpI (f := fun i j => decide (i < j)) (fun q => PyProof.Rows.lt_int q) ha hb hm
theorem le_le {i j : Int} (ha : Le P w U Dp env h a (.int i)) (hb : Le P w U Dp env h b (.int j)) (hm : behindInMarks .LtE b = false := by exact nobehind _ (by decide) (by decide)) : Le P w U Dp env h (.Compare a [.LtE] [b] pos) (.bool (decide (i ≤ j))) := le_cmpI (f := fun i j => decide (i ≤ j)) (fun q => PyProof.Rows.le_int q) ha hb hm
theorem le_gt {i j : Int} (ha : Le P w U Dp env h a (.int i)) (hb : Le P w U Dp env h b (.int j)) (hm : behindInMarks .Gt b = false := by exact nobehind _ (by decide) (by decide)) : Le P w U Dp env h (.Compare a [.Gt] [b] pos) (.bool (decide (j < i))) := le_cmpI (f := fun i j => decide (j < i)) (fun q => PyProof.Rows.gt_int q) ha hb hm
theorem le_ne {i j : Int} (ha : Le P w U Dp env h a (.int i)) (hb : Le P w U Dp env h b (.int j)) (hm : behindInMarks .NotEq b = false := by exact nobehind _ (by decide) (by decide)) : Le P w U Dp env h (.Compare a [.NotEq] [b] pos) (.bool (i != j)) := le_cmpI (f := fun i j => i != j) (fun q => PyProof.Rows.ne_int q) ha hb hm
theorem le_chain {i j l : Int} (ha : Le P w U Dp env h a (.int i)) (hb : Le P w U Dp env h b (.int j)) (hc : Le P w U Dp env h c (.int l)) (hm : lastMarks [.LtE, .LtE] [b, c] = false := by with_unfolding_all rfl) : Le P w U Dp env h (.Compare a [.LtE, .LtE] [b, c] pos) (.bool (decide (i ≤ j) && decide (j ≤ l))) := fun A E s hh hd hu k =>
  Compare_chain (wpAny_mono (ha A E s hh hd hu k) (fun v s1 ⟨r1, q1⟩ => chain_link (wpAny_mono (hb A E s1 hh hd hu (k.trans (keeps_kp q1))) (fun u s2 ⟨r2, q2⟩ => by
    have q12 := keeps_trans q1 q2
    obtain ⟨t, rfl⟩ := r1.int_v
    obtain ⟨t', rfl⟩ := r2.int_v
    refine PyProof.Rows.le_int (wpAny_truthy_bool ?_)
    cases hz : decide (i ≤ j) with
    | false => exact ite_ff ⟨⟨_, .bool _⟩, q12⟩
    | true =>
      refine ite_tt (chain_last (wpAny_mono (hc A E s2 hh hd hu (k.trans (keeps_kp q12))) (fun x s3 ⟨r3, q3⟩ => ?_) fun _ _ x => x))
      obtain ⟨t3, rfl⟩ := r3.int_v
      exact PyProof.Rows.le_int ⟨⟨_, .bool _⟩, keeps_trans q12 q3⟩) fun _ _ x => x)) fun _ _ x => x) hm
theorem le_sub {i j : Int} (ha : Le P w U Dp env h a (.int i)) (hb : Le P w U Dp env h b (.int j)) : Le P w U Dp env h (.BinOp a .Sub b pos) (.int (i - j)) := fun A E s hh hd hu k =>
  wpAny_BinOp (wpAny_mono (ha A E s hh hd hu k) (fun v s1 ⟨r1, q1⟩ => wpAny_mono (hb A E s1 hh hd hu (k.trans (keeps_kp q1))) (fun u s2 ⟨r2, q2⟩ => by
    obtain ⟨t, rfl⟩ := r1.int_v
    obtain ⟨t', rfl⟩ := r2.int_v
    exact PyProof.Rows.sub_int ⟨⟨_, .int _ _⟩, keeps_trans (keeps_trans q1 q2) (GxR.keeps_tok _ _)⟩) fun _ _ x => x) fun _ _ x => x)
theorem le_ix {ds : List D} {i : Int} {d : D} (ha : Le P w U Dp env h a (.tuple ds)) (hb : Le P w U Dp env h b (.int i)) (hi : atI ds i = some d) (hl : ds.length ≤ 1000) (hs : PlainIx b := by exact fun _ _ => rfl) : Le P w U Dp env h (.Subscript a b pos) d := fun A E s hh hd hu k =>
  Subscript_ (wpAny_mono (ha A E s hh hd hu k) (fun v s1 ⟨r1, q1⟩ => wpAny_mono (hb A E s1 hh hd hu (k.trans (keeps_kp q1))) (fun u s2 ⟨r2, q2⟩ => by
    obtain ⟨t, rfl⟩ := r2.int_v
    obtain ⟨c, its, rfl, ht, hz, hg⟩ := (r1.kp (keeps_kp q2)).tup_v
    obtain ⟨j, h1, h2, h3, h4, h5⟩ := atI_get hi
    obtain ⟨x, ex, rx⟩ := hg j d h2
    exact subscriptTail_builtinR (x := x) ht.typeIs slot_tuple_getitem.lookup (PyProof.Rows.getItem_tuple (j := j) ht (by omega) (by omega) (by rw [hz]; exact h1) ex ⟨rfl, rx, keeps_trans q1 q2⟩) (hs _ _)) fun _ _ x => x) fun _ _ x => x)
end
section
variable {P : Program} {w : World} {U Dp : Nat} {env : Env} {h : Heap} {K : PySem.W.Frag} {mg m : Str → Option Value} {e a b c : Expr} {rest : List Expr} {pos p1 : Pos} {d : D}
theorem l_blt {x : Str} {u : Value} {A : Around} {E : Value → Shared → Prop} {s : Shared} {Q : Value → Shared → Prop} (F : Lf K mg env m h) (k : Kp h s.heap) (hm : mg x = none) (hv : bootBuiltins x = some u) (q : Q u s) (hg : env.kindOf x = some .globalImplicit := by rfl) (hn : x ≠ "__name__" := by decide) (hd : (x == ("__debug__" : Str)) = false := by decide) : wpAny (model P w) A (eval (.Name x pos) env) Q E s := by
  obtain ⟨mb, h1, h2⟩ := F.bns
  exact Calls.Name_function_global F.kind hg (Calls.loadGlobal_builtin (by rw [F.glob]; exact F.gns.keeps k) hm (by rw [F.blt]; exact h1.keeps k) ((h2 x hn).trans hv) q) hd
/-- arguments, from the left -/
def La (P : Program) (w : World) (U Dp : Nat) (env : Env) (h : Heap) (l : List Expr) (S : List Value → Heap → Prop) : Prop := ∀ (pos : Pos) (A : Around) (E : Value → Shared → Prop) (s : Shared), A.handled = none → A.depth ≤ Dp → A.units ≤ U → Kp h s.heap →
  wpAny (model P w) A (spliced (backTo pos (starEach l env))) (fun vs s' => S vs s'.heap ∧ Keeps s s') E s
theorem la_nil : La P w U Dp env h [] (fun vs _ => vs = []) := fun pos A E s _ _ _ k => Calls.spliced_nil ⟨rfl, GxR.keeps_refl s⟩
theorem la_cons {l : List Expr} {S : List Value → Heap → Prop} (ha : Le P w U Dp env h e d) (hr : La P w U Dp env h l S) (hs : starEach (e :: l) env = (false, eval e env) :: starEach l env := by rfl) : La P w U Dp env h (e :: l) (fun vs h' => ∃ v r, vs = v :: r ∧ RdX h' v d ∧ S r h') := fun pos A E s hh hd hu k => by
  rw [hs]
  show wpAny _ _ (spliced ((false, eval e env) :: backTo pos (starEach l env))) _ _ s
  exact Calls.spliced_cons (wpAny_mono (ha A E s hh hd hu k) (fun v s1 ⟨r1, q1⟩ => wpAny_mono (hr pos A E s1 hh hd hu (k.trans (keeps_kp q1))) (fun vs s2 ⟨r2, q2⟩ => ⟨⟨v, vs, rfl, r1.kp (keeps_kp q2), r2⟩, keeps_trans q1 q2⟩) fun _ _ x => x) fun _ _ x => x)
theorem la_ty {x : Str} {n : String} (F : Lf K mg env m h) (hx : mg x = none) (hv : bootBuiltins x = some (.type n)) (hgx : env.kindOf x = some .globalImplicit := by rfl) (hn : x ≠ "__name__" := by decide) (hdx : (x == ("__debug__" : Str)) = false := by decide)
    (hs : starEach [.Name x p1] env = (false, eval (.Name x p1) env) :: starEach [] env := by rfl) : La P w U Dp env h [.Name x p1] (fun vs _ => vs = [.type n]) := fun pos A E s hh hd hu k => by
  rw [hs]
  show wpAny _ _ (spliced ((false, eval (.Name x p1) env) :: backTo pos (starEach [] env))) _ _ s
  exact Calls.spliced_cons (l_blt F k hx hv (Calls.spliced_nil ⟨rfl, GxR.keeps_refl s⟩) hgx hn hdx)
theorem le_cB {id : String} {x : Str} {l : List Expr} {S : List Value → Heap → Prop} (F : Lf K mg env m h) (hm : mg x = none) (hv : bootBuiltins x = some (.builtin id)) (ha : La P w U Dp env h (e :: l) S)
    (hc : ∀ (A : Around) (E : Value → Shared → Prop) (s : Shared) (vs : List Value), A.handled = none → A.depth ≤ Dp → A.units ≤ U → Kp h s.heap → S vs s.heap → wpAny (model P w) A (call (.builtin id) vs) (fun v s' => RdX s'.heap v d ∧ Keeps s s') E s)
    (hg : env.kindOf x = some .globalImplicit := by rfl) (hn : x ≠ "__name__" := by decide) (hdx : (x == ("__debug__" : Str)) = false := by decide) (he : starEach (e :: l) env = (false, eval e env) :: starEach l env := by rfl) (hpl : (backTo pos (starEach l env)).any (·.1) = false := by rfl) :
    Le P w U Dp env h (.Call (.Name x p1) (e :: l) [] pos) d := fun A E s hh hd hu k =>
  wpAny_Call_Name_kw (l_blt F k hm hv (PyProof.Rows.callWith_builtin1 (wpAny_mono (ha pos A E s hh hd hu k) (fun vs s1 ⟨r1, q1⟩ => wpAny_mono (hc A E s1 vs hh hd hu (k.trans (keeps_kp q1)) r1) (fun v s2 ⟨r2, q2⟩ => ⟨r2, keeps_trans q1 q2⟩) fun _ _ x => x) fun _ _ x => x) he hpl) hg hn hdx)
theorem le_lenT {ds : List D} (F : Lf K mg env m h) (hm : mg "len" = none) (ha : Le P w U Dp env h a (.tuple ds)) (hl : ds.length ≤ 1000) (hg : env.kindOf "len" = some .globalImplicit := by rfl)
    (he : starEach [a] env = (false, eval a env) :: starEach [] env := by rfl) (hpl : (backTo pos (starEach [] env)).any (·.1) = false := by rfl) : Le P w U Dp env h (.Call (.Name "len" p1) [a] [] pos) (.int (ds.length : Int)) :=
  le_cB F hm PySem.boot_len (la_cons ha la_nil he) (fun A E s vs hh hd hu k hS => by
    obtain ⟨v, r, rfl, r1, rfl⟩ := hS
    obtain ⟨c, its, rfl, ht, hz, _⟩ := r1.tup_v
    exact PyProof.Rows.len_tuple ht (by omega) ⟨⟨_, by rw [hz]; exact .int _ _⟩, GxR.keeps_tok _ _⟩) hg (he := he) (hpl := hpl)
theorem kit_rd {v : Value} (r : RdX h v d) (hd : ∀ x, d ≠ .dict x) : ∃ G : Heap → Prop, PySem.W.KitX K v (.type (tyD d)) G ∧ (∀ h', Kp h h' → G h') ∧ v ≠ .builtin "__main__.__loader__#opaque" := by
  obtain ⟨as, r⟩ := r
  cases r with
  | none => exact ⟨_, PySem.W.kitx_none, fun _ _ => True.intro, fun z => nomatch z⟩
  | bool b => exact ⟨_, PySem.W.kitx_bool, fun _ _ => True.intro, fun z => nomatch z⟩
  | int i t => exact ⟨_, PySem.W.kitx_int, fun _ _ => True.intro, fun z => nomatch z⟩
  | str x t => exact ⟨_, PySem.W.kitx_str, fun _ _ => True.intro, fun z => nomatch z⟩
  | list h1 h2 h3 h4 => exact ⟨_, PySem.W.kitx_list, fun h' k => ⟨_, k _ _ h1, h2⟩, fun z => nomatch z⟩
  | tuple h1 h2 h3 h4 => exact ⟨_, PySem.W.kitx_tuple, fun h' k => ⟨_, k _ _ h1, h2⟩, fun z => nomatch z⟩
  | dict => exact absurd rfl (hd _)
theorem le_isi {n : String} {x : Str} {z : Bool} {p2 : Pos} (F : Lf K mg env m h) (hm : mg "isinstance" = none) (hx : mg x = none) (hv : bootBuiltins x = some (.type n)) (ha : Le P w U Dp env h a d) (hdd : ∀ x, d ≠ .dict x) (hz : kitB (tyD d) n = some z) (hg : env.kindOf "isinstance" = some .globalImplicit := by rfl) (hgx : env.kindOf x = some .globalImplicit := by rfl) (hn : x ≠ "__name__" := by decide) (hdx : (x == ("__debug__" : Str)) = false := by decide)
    (he : starEach [a, .Name x p2] env = (false, eval a env) :: starEach [.Name x p2] env := by rfl) (he2 : starEach [.Name x p2] env = (false, eval (.Name x p2) env) :: starEach [] env := by rfl) (hpl : (backTo pos (starEach [.Name x p2] env)).any (·.1) = false := by rfl) :
    Le P w U Dp env h (.Call (.Name "isinstance" p1) [a, .Name x p2] [] pos) (.bool z) :=
  le_cB F hm boot_isi (la_cons ha (la_ty F hx hv hgx hn hdx he2) he) (fun A E s vs hh hd hu k hS => by
    obtain ⟨v, r, rfl, r1, rfl⟩ := hS
    obtain ⟨G, Z, hG, hx⟩ := kit_rd r1 hdd
    exact PySem.W.kia_one Z (fun b o e => k b o (F.kin b o e)) (hG _ fun _ _ e => e) (kit_ty hz) hx fun tk => ⟨⟨_, .bool z⟩, GxR.keeps_tok _ _⟩) hg (he := he) (hpl := hpl)

/-! ### statements, calls of defs -/
theorem lb_ret {rest : List Stmt} (he : Le P w U Dp env h e d) : Lb P w U Dp env h (.Return (some e) pos :: rest) d := fun A E s hh hd hu k =>
  wpAny_execs_cons (wpAny_Return_some (wpAny_mono (he A E s hh hd hu k) (fun v s1 ⟨r1, q1⟩ => ⟨⟨v, rfl, r1⟩, q1⟩) fun _ _ x => x))
theorem lb_if {c : Expr} {z : Bool} {u rest : List Stmt} (hc : Lt P w U Dp env h c z) (h1 : z = true → Lb P w U Dp env h u d) (h2 : z = false → Lb P w U Dp env h rest d) : Lb P w U Dp env h (.If c u [] pos :: rest) d := fun A E s hh hd hu k =>
  wpAny_execs_cons (wpAny_If (wpAny_mono (hc A E s hh hd hu k) (fun b s1 ⟨e, q1⟩ => by
    subst e
    have k1 := k.trans (keeps_kp q1)
    cases b with
    | true =>
      refine ite_tt (wpAny_mono (h1 rfl A E s1 hh hd hu k1) (fun f s2 ⟨⟨v, ev, r⟩, q2⟩ => ?_) fun _ _ x => x)
      subst ev
      exact ⟨⟨v, rfl, r⟩, keeps_trans q1 q2⟩
    | false =>
      refine ite_ff (wpAny_execs_nil ?_)
      exact wpAny_mono (h2 rfl A E s1 hh hd hu k1) (fun f s2 ⟨r, q2⟩ => ⟨r, keeps_trans q1 q2⟩) fun _ _ x => x) fun _ _ x => x))
end
/-- what a call of the def at f gives, whatever frames stand -/
def Lc (P : Program) (w : World) (K : PySem.W.Frag) (mg : Str → Option Value) (U Dp : Nat) (f : Addr) (ds : List D) (d : D) : Prop := ∀ (A : Around) (E : Value → Shared → Prop) (s : Shared) (us : List Value), A.handled = none → A.depth ≤ Dp → A.units ≤ U → Lg K mg s.heap → us.length = ds.length → (∀ (j : Nat) (x : D), ds[j]? = some x → ∃ u, us[j]? = some u ∧ RdX s.heap u x) →
  wpAny (model P w) A (call (.ref f) us) (fun v s' => RdX s'.heap v d ∧ Keeps s s') E s
section
variable {P : Program} {w : World} {U Dp : Nat} {K : PySem.W.Frag} {mg : Str → Option Value} {x qual : Str} {params : Arguments} {body : List Stmt} {scope : Scope} {f : Addr} {fd : FuncData} {ps : List Str} {ds : List D} {d : D}
theorem lc_fn (F : FunD K x qual params body scope [] [] f fd) (hb : ∀ (kV doc pm : Value) (an : Option Addr) (cdv ct : Value) (us : List Value), us.length = ps.length → bindArgs (PySem.W.fnOf x qual params body scope .none kV doc pm an cdv ct) ⟨us, []⟩ = pure (ps.zip us)) (hl : ds.length = ps.length) (nd : ps.Nodup)
    (hpl : ∀ y ∈ ps, scope.names.lookup y = some .local) (hco : scope.isCoroutine = false) (hge : scope.isGenerator = false) (hk : scope.kind = .function) (hD : Dp < recursionLimit)
    (hbody : ∀ (env : Env) (m : Str → Option Value) (h : Heap), env.scope = scope → Lf K mg env m h → (∀ (j : Nat) (y : Str) (x : D), ps[j]? = some y → ds[j]? = some x → ∃ u, m y = some u ∧ RdX h u x) → Lb P w (U + 3) (Dp + 1) env h body d) : Lc P w K mg U Dp f ds d := fun A E s us hh hd hu G hlen hus => by
  have hbi := F.bindsN hb
  obtain ⟨oc, od, dV, kV, doc, pm, an, cdv, ct, osl, rfl, lk, hcd, _, _⟩ := F.ex
  have hlu : us.length = ps.length := hlen.trans hl
  have B := hbi s us G.kin (by rw [List.append_nil]; exact hlu)
  rw [List.append_nil] at B
  refine wpAny_call (Att.call_fn G.kin G.lim lk hcd (by omega) B ?_ (fun s1 x1 => ?_) hco hge hk)
  · rw [List.all_eq_true]
    intro y hy
    have hm : y.1 ∈ ps := (List.of_mem_zip (a := y.1) (b := y.2) hy).1
    rw [hpl y.1 hm]
    rfl
  · obtain ⟨h1, tk, es1, kp⟩ := x1.done
    have k1 : Kp s.heap s1.heap := by
      rw [es1]
      exact kp
    have F1 : Lf K mg (envOfC qual scope s.heap.objs.size f cdv) (bindL (envOfC qual scope s.heap.objs.size f cdv).kindOf (ps.zip us) fun _ => none) s1.heap := ⟨G.kp k1, hk, rfl, rfl, x1.toInCall.ns⟩
    refine wpAny_mono (hbody (envOfC qual scope s.heap.objs.size f cdv) _ s1.heap rfl F1 (fun j y x hp hx => ?_) (A.deeper (envOfC qual scope s.heap.objs.size f cdv)) _ s1 hh ?_ ?_ (fun _ _ e => e)) (fun fl s' q => ?_) (fun _ _ z => z)
    · obtain ⟨u, hu1, r⟩ := hus j x hx
      exact ⟨u, bindL_get nd hp hu1 (hpl y (List.mem_of_getElem? hp)), r.kp k1⟩
    · show A.depth + 1 ≤ Dp + 1
      omega
    · show A.units + 3 ≤ U + 3
      omega
    · obtain ⟨⟨v, e, r⟩, q⟩ := q
      subst e
      refine ⟨r, keeps_trans ?_ q⟩
      exact ⟨h1, tk, es1, kp⟩
theorem le_call {e : Expr} {env : Env} {h : Heap} {m : Str → Option Value} {l : List Expr} {pos p1 : Pos} {y : Str} (L : Lc P w K mg U Dp f ds d) (F : Lf K mg env m h) (hm : mg y = some (.ref f)) (hkp : PySem.W.keepIn K (.ref f) = true)
    (ha : La P w U Dp env h (e :: l) fun vs h' => vs.length = ds.length ∧ ∀ (j : Nat) (x : D), ds[j]? = some x → ∃ u, vs[j]? = some u ∧ RdX h' u x)
    (hg : env.kindOf y = some .globalImplicit := by rfl) (hdx : (y == ("__debug__" : Str)) = false := by decide) (he : starEach (e :: l) env = (false, eval e env) :: starEach l env := by rfl) (hpl : (backTo pos (starEach l env)).any (·.1) = false := by rfl) :
    Le P w U Dp env h (.Call (.Name y p1) (e :: l) [] pos) d := fun A E s hh hd hu k =>
  wpAny_Call_Name_kw (Calls.Name_function_global F.kind hg (Calls.loadGlobal_global (by rw [F.glob]; exact F.gns.keeps k) hm (PySem.W.callWith_K (h₀ := h) (fun b o q => F.kin b o q) hkp (wpAny_mono (ha pos A E s hh hd hu k) (fun vs s1 ⟨⟨l1, r1⟩, q1⟩ =>
    ⟨fun b o q => k.trans (keeps_kp q1) b o (F.kin b o q), wpAny_mono (L A E s1 vs hh hd hu (F.toLg.kp (k.trans (keeps_kp q1))) l1 r1) (fun v s2 ⟨r2, q2⟩ => ⟨r2, keeps_trans q1 q2⟩) fun _ _ x => x⟩) fun _ _ x => x) he hpl)) hdx)
theorem La.imp {env : Env} {h : Heap} {l : List Expr} {S S' : List Value → Heap → Prop} (ha : La P w U Dp env h l S) (f : ∀ vs h', S vs h' → S' vs h') : La P w U Dp env h l S' := fun pos A E s hh hd hu k => wpAny_mono (ha pos A E s hh hd hu k) (fun vs s1 ⟨r1, q1⟩ => ⟨f _ _ r1, q1⟩) fun _ _ x => x
theorem args3 {d1 d2 d3 : D} {vs : List Value} {h' : Heap} (q : ∃ v r, vs = v :: r ∧ RdX h' v d1 ∧ ∃ v2 r2, r = v2 :: r2 ∧ RdX h' v2 d2 ∧ ∃ v3 r3, r2 = v3 :: r3 ∧ RdX h' v3 d3 ∧ r3 = []) : vs.length = [d1, d2, d3].length ∧ ∀ (j : Nat) (x : D), [d1, d2, d3][j]? = some x → ∃ u, vs[j]? = some u ∧ RdX h' u x := by
  obtain ⟨v, r, rfl, r1, v2, r2, rfl, q2, v3, r3, rfl, q3, rfl⟩ := q
  refine ⟨rfl, fun j x e => ?_⟩
  match j, e with
  | 0, e => cases e; exact ⟨_, rfl, r1⟩
  | 1, e => cases e; exact ⟨_, rfl, q2⟩
  | 2, e => cases e; exact ⟨_, rfl, q3⟩
  | j + 3, e => simp at e
theorem args2 {d1 d2 : D} {vs : List Value} {h' : Heap} (q : ∃ v r, vs = v :: r ∧ RdX h' v d1 ∧ ∃ v2 r2, r = v2 :: r2 ∧ RdX h' v2 d2 ∧ r2 = []) : vs.length = [d1, d2].length ∧ ∀ (j : Nat) (x : D), [d1, d2][j]? = some x → ∃ u, vs[j]? = some u ∧ RdX h' u x := by
  obtain ⟨v, r, rfl, r1, v2, r2, rfl, q2, rfl⟩ := q
  refine ⟨rfl, fun j x e => ?_⟩
  match j, e with
  | 0, e => cases e; exact ⟨_, rfl, r1⟩
  | 1, e => cases e; exact ⟨_, rfl, q2⟩
  | j + 2, e => simp at e
end
end DL
end
section
set_option Elab.async false
set_option linter.all false
set_option autoImplicit false
set_option maxRecDepth 100000
set_option maxHeartbeats 2000000
/-! any, all of generator expressions over plain data. -/
namespace DL
open PySem PySem.Spec L2
open PyProof.Rows hiding St

/-- the generator at g is ready: tr its items' truth -/
def Rdy (X : Cx) (pins : List (Addr × Obj)) (σ : St) (H1 : Hp) (P : Addr) (N : Nat) (tr : Nat → Bool) (g : Addr) (s5 : Shared) : Prop :=
  ∃ (fp wr : List Addr) (G : Array GenState → Array GenState → Prop) (F : Nat → Value → Prop) (S : Nat → Shared → Prop), WalksS X.prog X.w X.A.in1 g fp wr G N F S ∧ S 0 s5 ∧ TruthOf X.prog X.w X.A.in1 F tr ∧ ∀ s', Moved wr G s5 s' → ∃ H2, GxR.Tabbed P H1 H2 ∧ Inv X pins σ H2 s'
/-- all but P's object stays -/
abbrev Kx (P : Addr) (h h' : Heap) : Prop := ∀ b o, b ≠ P → h.get? b = some o → h'.get? b = some o
/-- the place of a generator's element -/
structure Gp (X : Cx) (P : Addr) (scope : Scope) (h0 : Heap) (cenv : Env) (m : Str → Option Value) (s2 : Shared) (A' : Around) : Prop where
  scp : cenv.scope = scope
  cells : cenv.cells = cloFrom X.env.cells scope.names []
  glob : cenv.globals = X.env.globals
  blt : cenv.builtins = builtinsNs
  hh : A'.handled = none
  hd : A'.depth ≤ X.A.depth + 1
  hu : A'.units ≤ X.A.units + 8
  loc : s2.heap.Ns cenv.locals m
  keep : Kx P h0 s2.heap
section
variable {X : Cx} {pins : List (Addr × Obj)} {σ : St} {H : Hp} {s : Shared} {k : Nat}
/-- the source: single items -/
def Src1 (X : Cx) (pins : List (Addr × Obj)) (σ : St) (P : Addr) (Vp : Heap → Nat → Value → Prop) (R : Hp → Shared → Nat → Prop) (itv : Value) (s2 : Shared) : Prop :=
  ∃ (H1 : Hp) (s0 : Shared) (h2 : Heap) (tk : Nat) (I : Addr) (wr : List Addr) (N : Nat), itv = .ref I ∧ s2 = { s0 with heap := h2, toks := tk } ∧ Inv X pins σ H1 s0 ∧ Kp s0.heap h2 ∧ (∀ b ∈ wr, s0.heap.objs.size ≤ b ∧ b < h2.objs.size) ∧ s0.heap.objs.size ≤ h2.objs.size ∧ GxR.TabG H1 P ∧ R H1 s0 N ∧
    ∀ h4, Kx P h2 h4 → h2.objs.size ≤ h4.objs.size → ∃ fp Pv S, (∀ A' : Around, A'.handled = none → Walks X.prog X.w A' I fp wr N Pv S) ∧ S 0 h4 ∧ (∀ b ∈ fp, b < h4.objs.size) ∧ ∀ i v, Pv i v → Vp s0.heap i v
/-- pairs, given out as tuples -/
def Src2 (X : Cx) (pins : List (Addr × Obj)) (σ : St) (P : Addr) (Vp : Heap → Nat → Value → Value → Prop) (R : Hp → Shared → Nat → Prop) (itv : Value) (s2 : Shared) : Prop :=
  ∃ (H1 : Hp) (s0 : Shared) (h2 : Heap) (tk : Nat) (I : Addr) (wr : List Addr) (N : Nat), itv = .ref I ∧ s2 = { s0 with heap := h2, toks := tk } ∧ Inv X pins σ H1 s0 ∧ Kp s0.heap h2 ∧ (∀ b ∈ wr, s0.heap.objs.size ≤ b ∧ b < h2.objs.size) ∧ s0.heap.objs.size ≤ h2.objs.size ∧ GxR.TabG H1 P ∧ R H1 s0 N ∧
    ∀ h4, Kx P h2 h4 → h2.objs.size ≤ h4.objs.size → ∃ fp Pt S Mid, (∀ A' : Around, A'.handled = none → WalksU X.prog X.w A' I fp wr N Pt S Mid) ∧ S 0 h4 ∧ (∀ b ∈ fp, b < h4.objs.size) ∧ ∀ i vals, Pt i vals → ∃ va vb, vals = #[va, vb] ∧ Vp s0.heap i va vb
theorem gen1 {c P : Addr} {elt iter : Expr} {x : Str} {px gpos : Pos} {scope : Scope} {Q' : Value → Shared → Prop} {Vp : Heap → Nat → Value → Prop} {R : Hp → Shared → Nat → Prop}
    (hr : Room k X.A) (TB : GxR.TabB X.base X.mg c P) (hcode : X.env.code = .ref c) (S : GxR.GenS X.env scope x) (hs : ∀ v, genFold iter X.env v = pure v)
    (hi : wpAny (model X.prog X.w) X.A (eval iter X.env) (fun xv s1 => wpAny (model X.prog X.w) X.A (pyIter xv) (Src1 X pins σ P Vp R) X.xe s1) X.xe s)
    (hel : ∀ H1 s0 N, R H1 s0 N → Inv X pins σ H1 s0 → ∃ tr : Nat → Bool, (∀ i v cenv m A' E' s2, Gp X P scope s0.heap cenv m s2 A' → Vp s0.heap i v → m x = some v → wpAny (model X.prog X.w) A' (eval elt cenv) (fun y s3 => y = .bool (tr i) ∧ Keeps s2 s3) E' s2) ∧ ∀ g s5, Rdy X pins σ H1 P N tr g s5 → Q' (.ref g) s5) :
    wpAny (model X.prog X.w) X.A (eval (.GeneratorExp elt [⟨.Name x px, iter, [], 0⟩] scope gpos) X.env) Q' X.xe s := by
  refine wpAny_GeneratorExp_walksQD hr.hd S.co (closure_ok S.free) S.cell S.dot S.loc S.kind (by have := hr.dp; omega) ?_ hs
  refine wpAny_mono hi (fun xv s1 h1 => wpAny_mono h1 (fun itv s2 src => ?_) fun _ _ z => z) fun _ _ z => z
  obtain ⟨H1, s0, h2, tk, Ia, wr, N, rfl, rfl, I1, kp, hwr, hsz0, ⟨ps, hP, ht⟩, hR, pkg⟩ := src
  obtain ⟨tr, hE, hQ⟩ := hel H1 s0 N hR I1
  have hPs : s0.heap.get? P = some { cls := .none, data := .fields ps } := I1.hok P _ hP
  have hP2 : h2.get? P = some { cls := .none, data := .fields ps } := kp _ _ hPs
  have cd : PySem.W.CodeHd h2 c P := TB.code.keeps fun b u e => kp _ _ (I1.bk b u e)
  have lim2 : h2.NoLimit := I1.nolimit.keeps kp
  have cont : ∀ (code : Value) (h3 : Heap) (tk3 : Nat) (ps' : Array Value), Heap.ExtBut P h2 h3 → h2.objs.size ≤ h3.objs.size → h3.get? P = some { cls := .none, data := .fields ps' } → (∃ more, ps' = ps ++ more) → TriplesOk ps'.toList →
      wpAny (model X.prog X.w) X.A (builtinsFor X.env.globals X.env.builtins) (fun bi s₄ =>
        ∃ Ia' fp wr n₀ Pf St₀ pz F, Value.ref Ia = .ref Ia' ∧ (∀ A' : Around, A'.handled = none → Walks X.prog X.w A' Ia' fp wr n₀ Pf St₀) ∧ St₀ 0 s₄.heap ∧ (∀ b ∈ fp, b < s₄.heap.objs.size) ∧ s₄.heap.NoLimit ∧ cStatics ∉ wr ∧
          (∀ href : Heap, (∀ b o, s₄.heap.get? b = some o → href.get? b = some o) →
            QuietGenD X.prog X.w (genEnv scope (cloFrom X.env.cells scope.names []) s₄.heap.objs.size code bi X.env) x [] elt (List.range s₄.heap.objs.size) wr Pf pz F href (X.A.depth + 1) (X.A.units + 8)) ∧
          (∀ a h₅ tk gs, gs.bare = true → s₄.heap.objs.size < a → h₅.objs.size = a + 1 → (∀ b o, s₄.heap.get? b = some o → h₅.get? b = some o) →
            WalksS X.prog X.w X.A.in4 a (a :: s₄.heap.objs.size :: List.range s₄.heap.objs.size) (s₄.heap.objs.size :: wr) (GenOnlyQ s₄.gens.size) (passing pz n₀ 0).length
              (fun j y => ∃ i, (passing pz n₀ 0)[j]? = some i ∧ F i y) (GenAt X.prog X.w X.A.in4 a s₄.gens.size s₄.heap.objs.size (List.range s₄.heap.objs.size) wr pz n₀ F) →
            GenAt X.prog X.w X.A.in4 a s₄.gens.size s₄.heap.objs.size (List.range s₄.heap.objs.size) wr pz n₀ F 0 { s₄ with gens := s₄.gens.push gs, toks := tk, heap := h₅ } →
            Q' (.ref a) { s₄ with gens := s₄.gens.push gs, toks := tk, heap := h₅ })) X.xe { s0 with heap := h3, toks := tk3 } := by
    intro code h3 tk3 ps' hx hsz hP3 hmore ht3
    obtain ⟨bm, ob, e1, e2, e3, e4, e5, e6, e7, e8⟩ := TB.bm
    have hcP : cStatics ≠ P := fun e => by
      obtain ⟨_, hns, _⟩ := I1.nolimit
      obtain ⟨o', es, ep, ho, hd, _⟩ := hns
      rw [e, hPs] at ho
      cases ho
      cases hd
    have hcl : cStatics < s0.heap.objs.size := let ⟨_, hns, _⟩ := I1.nolimit; hns.lt
    have keep3 : Kx P s0.heap h3 := fun b u hb e => hx b u hb (kp b u e)
    refine wpAny_builtinsFor (m := X.mg) (by rw [I1.ok.glob]; exact ((I1.mod.glob.keeps I1.bk).keeps kp).extBut hx TB.gP) e1 e2 (keep3 _ _ e4 (I1.bk _ _ e5)) e6 e7 e8 ?_
    obtain ⟨fp, Pv, S0, W, hst, hfp, hV⟩ := pkg h3 (fun b o hb e => hx b o hb e) hsz
    refine ⟨Ia, fp, wr, N, Pv, S0, (fun _ => true), (fun i y => y = .bool (tr i) ∧ ∃ v, Pv i v), rfl, W, hst, hfp, lim2.extBut hx hcP, fun z => absurd hcl (Nat.not_lt.mpr (hwr _ z).1), ?_, ?_⟩
    · intro href hhref
      refine ⟨fun A' E' i v s₂ m₂ hA hD hU hPv hn hm hk => ?_, fun A' E' i v s₂ m₂ hA hD hU hPv hp hn hm hk => ?_⟩
      · simp only [List.forIn_nil]
        exact wpAny_pure ⟨rfl, GxR.keeps_refl _⟩
      · refine wpAny_mono (hE i v _ m₂ A' E' s₂ ⟨rfl, rfl, rfl, rfl, hA, hD, hU, hn, fun b o hb e => ?_⟩ (hV i v hPv) hm) (fun y s3 r => ⟨⟨r.1, v, hPv⟩, r.2⟩) fun _ _ e => e
        have lt : b < s0.heap.objs.size := Heap.lt_size e
        exact hk b (List.mem_range.mpr (Nat.lt_of_lt_of_le lt (Nat.le_trans hsz0 hsz))) (fun z => absurd lt (Nat.not_lt.mpr (hwr b z).1)) o (hhref b o (keep3 b o hb e))
    · intro g h5 tk5 gs hgb hag hsz5 hk5 W5 hat
      simp only [GxR.passing_true, List.length_range] at W5
      refine hQ g _ ⟨_, _, _, _, _, W5.in4_1, hat, ?_, fun s' hm => ?_⟩
      · intro j y sj Qj Ej hy hQj
        obtain ⟨i, hij, rfl, _⟩ := hy
        obtain ⟨hj, ej⟩ := List.getElem?_eq_some_iff.mp hij
        rw [List.getElem_range] at ej
        subst ej
        exact wpAny_truthy_bool hQj
      · obtain ⟨more, em⟩ := hmore
        have nwr : ∀ b u, s0.heap.get? b = some u → b ∉ h3.objs.size :: wr := fun b u e hb => by
          have hl : b < s0.heap.objs.size := Heap.lt_size e
          rcases List.mem_cons.mp hb with z | z
          · rw [z] at hl
            exact absurd hl (Nat.not_lt.mpr (Nat.le_trans hsz0 hsz))
          · exact absurd hl (Nat.not_lt.mpr (hwr b z).1)
        have J := GxR.inv_tab (more := more) (h' := s'.heap) (g' := s'.gens) (d' := s'.drawn) (t' := s'.toks) I1 hP (fun b u hb e => hm.heap b u (nwr b u e) (hk5 b u (keep3 b u hb e)))
          (by rw [← em]; exact hm.heap P _ (nwr P _ hPs) (hk5 P _ hP3)) (AllBare.movedS (I1.bare.push hgb) hm)
        rw [GxR.sh_eta s0 s' hm.os] at J
        exact ⟨upd H1 P (.tbl (ps ++ more)), ⟨⟨ps ++ more, upd_same, by rw [← em]; exact ht3⟩, fun b hb => upd_ne hb⟩, J⟩
  refine ⟨lim2, ?_⟩
  cases hf : codeAmong gpos ps.toList with
  | none =>
    refine wpAny_genexprCodeX hcode (cd.code hP2 ht) (cd.tab hP2) hf fun c' h' tk hx hge hlt hco' _ htab' _ => ?_
    obtain ⟨o1, vs, f1, tf, fl, tg, inF, tx, tt, op, _, _, _, _, _, _, _, _, _, htr, _⟩ := hco'
    exact cont _ h' tk _ hx (Nat.le_trans hge (Nat.le_of_lt hlt)) htab'.2 ⟨_, rfl⟩ htr
  | some cv =>
    refine wpAny_genexprCode_hit hcode (cd.code hP2 ht) hf ?_
    exact cont cv h2 tk ps (Heap.ExtBut.refl _ _) (Nat.le_refl _) hP2 ⟨#[], by simp⟩ ht
theorem gen2 {c P : Addr} {elt iter : Expr} {xa xb : Str} {pa pb pt gpos : Pos} {kt : Nat} {scope : Scope} {Q' : Value → Shared → Prop} {Vp : Heap → Nat → Value → Value → Prop} {R : Hp → Shared → Nat → Prop}
    (hr : Room k X.A) (TB : GxR.TabB X.base X.mg c P) (hcode : X.env.code = .ref c) (S : GxR.GenS X.env scope xa) (hxb : scope.names.lookup xb = some .local) (hab : xa ≠ xb) (hs : ∀ v, genFold iter X.env v = pure v)
    (hi : wpAny (model X.prog X.w) X.A (eval iter X.env) (fun xv s1 => wpAny (model X.prog X.w) X.A (pyIter xv) (Src2 X pins σ P Vp R) X.xe s1) X.xe s)
    (hel : ∀ H1 s0 N, R H1 s0 N → Inv X pins σ H1 s0 → ∃ tr : Nat → Bool, (∀ i va vb cenv m A' E' s2, Gp X P scope s0.heap cenv m s2 A' → Vp s0.heap i va vb → m xa = some va → m xb = some vb → wpAny (model X.prog X.w) A' (eval elt cenv) (fun y s3 => y = .bool (tr i) ∧ Keeps s2 s3) E' s2) ∧ ∀ g s5, Rdy X pins σ H1 P N tr g s5 → Q' (.ref g) s5) :
    wpAny (model X.prog X.w) X.A (eval (.GeneratorExp elt [⟨.Tuple [.Name xa pa, .Name xb pb] kt pt, iter, [], 0⟩] scope gpos) X.env) Q' X.xe s := by
  refine wpAny_GeneratorExp_walksQTD hr.hd S.co (closure_ok S.free) S.cell S.dot S.loc hxb hab S.kind (by have := hr.dp; omega) ?_ hs
  refine wpAny_mono hi (fun xv s1 h1 => wpAny_mono h1 (fun itv s2 src => ?_) fun _ _ z => z) fun _ _ z => z
  obtain ⟨H1, s0, h2, tk, Ia, wr, N, rfl, rfl, I1, kp, hwr, hsz0, ⟨ps, hP, ht⟩, hR, pkg⟩ := src
  obtain ⟨tr, hE, hQ⟩ := hel H1 s0 N hR I1
  have hPs : s0.heap.get? P = some { cls := .none, data := .fields ps } := I1.hok P _ hP
  have hP2 : h2.get? P = some { cls := .none, data := .fields ps } := kp _ _ hPs
  have cd : PySem.W.CodeHd h2 c P := TB.code.keeps fun b u e => kp _ _ (I1.bk b u e)
  have lim2 : h2.NoLimit := I1.nolimit.keeps kp
  have cont : ∀ (code : Value) (h3 : Heap) (tk3 : Nat) (ps' : Array Value), Heap.ExtBut P h2 h3 → h2.objs.size ≤ h3.objs.size → h3.get? P = some { cls := .none, data := .fields ps' } → (∃ more, ps' = ps ++ more) → TriplesOk ps'.toList →
      wpAny (model X.prog X.w) X.A (builtinsFor X.env.globals X.env.builtins) (fun bi s₄ =>
        ∃ Ia' fp wr n₀ Pf St₀ Mid pz F, Value.ref Ia = .ref Ia' ∧ (∀ A' : Around, A'.handled = none → WalksU X.prog X.w A' Ia' fp wr n₀ Pf St₀ Mid) ∧ (∀ i vals, Pf i vals → ∃ va vb, vals = #[va, vb]) ∧ St₀ 0 s₄.heap ∧ (∀ b ∈ fp, b < s₄.heap.objs.size) ∧ s₄.heap.NoLimit ∧ cStatics ∉ wr ∧
          (∀ href : Heap, (∀ b o, s₄.heap.get? b = some o → href.get? b = some o) →
            QuietGenTD X.prog X.w (genEnv scope (cloFrom X.env.cells scope.names []) s₄.heap.objs.size code bi X.env) xa xb [] elt (List.range s₄.heap.objs.size) wr Pf pz F href (X.A.depth + 1) (X.A.units + 8)) ∧
          (∀ a h₅ tk gs, gs.bare = true → s₄.heap.objs.size < a → h₅.objs.size = a + 1 → (∀ b o, s₄.heap.get? b = some o → h₅.get? b = some o) →
            WalksS X.prog X.w X.A.in4 a (a :: s₄.heap.objs.size :: List.range s₄.heap.objs.size) (s₄.heap.objs.size :: wr) (GenOnlyQ s₄.gens.size) (passing pz n₀ 0).length
              (fun j y => ∃ i, (passing pz n₀ 0)[j]? = some i ∧ F i y) (GenAt X.prog X.w X.A.in4 a s₄.gens.size s₄.heap.objs.size (List.range s₄.heap.objs.size) wr pz n₀ F) →
            GenAt X.prog X.w X.A.in4 a s₄.gens.size s₄.heap.objs.size (List.range s₄.heap.objs.size) wr pz n₀ F 0 { s₄ with gens := s₄.gens.push gs, toks := tk, heap := h₅ } →
            Q' (.ref a) { s₄ with gens := s₄.gens.push gs, toks := tk, heap := h₅ })) X.xe { s0 with heap := h3, toks := tk3 } := by
    intro code h3 tk3 ps' hx hsz hP3 hmore ht3
    obtain ⟨bm, ob, e1, e2, e3, e4, e5, e6, e7, e8⟩ := TB.bm
    have hcP : cStatics ≠ P := fun e => by
      obtain ⟨_, hns, _⟩ := I1.nolimit
      obtain ⟨o', es, ep, ho, hd, _⟩ := hns
      rw [e, hPs] at ho
      cases ho
      cases hd
    have hcl : cStatics < s0.heap.objs.size := let ⟨_, hns, _⟩ := I1.nolimit; hns.lt
    have keep3 : Kx P s0.heap h3 := fun b u hb e => hx b u hb (kp b u e)
    refine wpAny_builtinsFor (m := X.mg) (by rw [I1.ok.glob]; exact ((I1.mod.glob.keeps I1.bk).keeps kp).extBut hx TB.gP) e1 e2 (keep3 _ _ e4 (I1.bk _ _ e5)) e6 e7 e8 ?_
    obtain ⟨fp, Pv, S0, Mid, W, hst, hfp, hV⟩ := pkg h3 (fun b o hb e => hx b o hb e) hsz
    refine ⟨Ia, fp, wr, N, Pv, S0, Mid, (fun _ => true), (fun i y => y = .bool (tr i) ∧ ∃ v, Pv i v), rfl, W, (fun i vals h => let ⟨va, vb, e, _⟩ := hV i vals h; ⟨va, vb, e⟩), hst, hfp, lim2.extBut hx hcP, fun z => absurd hcl (Nat.not_lt.mpr (hwr _ z).1), ?_, ?_⟩
    · intro href hhref
      refine ⟨fun A' E' i va vb s₂ m₂ hA hD hU hPv hn hma hmb hk => ?_, fun A' E' i va vb s₂ m₂ hA hD hU hPv hp hn hma hmb hk => ?_⟩
      · simp only [List.forIn_nil]
        exact wpAny_pure ⟨rfl, GxR.keeps_refl _⟩
      · obtain ⟨ua, ub, eu, hVp⟩ := hV i _ hPv
        have eu' : [va, vb] = [ua, ub] := congrArg Array.toList eu
        cases eu'
        refine wpAny_mono (hE i va vb _ m₂ A' E' s₂ ⟨rfl, rfl, rfl, rfl, hA, hD, hU, hn, fun b o hb e => ?_⟩ hVp hma hmb) (fun y s3 r => ⟨⟨r.1, _, hPv⟩, r.2⟩) fun _ _ e => e
        have lt : b < s0.heap.objs.size := Heap.lt_size e
        exact hk b (List.mem_range.mpr (Nat.lt_of_lt_of_le lt (Nat.le_trans hsz0 hsz))) (fun z => absurd lt (Nat.not_lt.mpr (hwr b z).1)) o (hhref b o (keep3 b o hb e))
    · intro g h5 tk5 gs hgb hag hsz5 hk5 W5 hat
      simp only [GxR.passing_true, List.length_range] at W5
      refine hQ g _ ⟨_, _, _, _, _, W5.in4_1, hat, ?_, fun s' hm => ?_⟩
      · intro j y sj Qj Ej hy hQj
        obtain ⟨i, hij, rfl, _⟩ := hy
        obtain ⟨hj, ej⟩ := List.getElem?_eq_some_iff.mp hij
        rw [List.getElem_range] at ej
        subst ej
        exact wpAny_truthy_bool hQj
      · obtain ⟨more, em⟩ := hmore
        have nwr : ∀ b u, s0.heap.get? b = some u → b ∉ h3.objs.size :: wr := fun b u e hb => by
          have hl : b < s0.heap.objs.size := Heap.lt_size e
          rcases List.mem_cons.mp hb with z | z
          · rw [z] at hl
            exact absurd hl (Nat.not_lt.mpr (Nat.le_trans hsz0 hsz))
          · exact absurd hl (Nat.not_lt.mpr (hwr b z).1)
        have J := GxR.inv_tab (more := more) (h' := s'.heap) (g' := s'.gens) (d' := s'.drawn) (t' := s'.toks) I1 hP (fun b u hb e => hm.heap b u (nwr b u e) (hk5 b u (keep3 b u hb e)))
          (by rw [← em]; exact hm.heap P _ (nwr P _ hPs) (hk5 P _ hP3)) (AllBare.movedS (I1.bare.push hgb) hm)
        rw [GxR.sh_eta s0 s' hm.os] at J
        exact ⟨upd H1 P (.tbl (ps ++ more)), ⟨⟨ps ++ more, upd_same, by rw [← em]; exact ht3⟩, fun b hb => upd_ne hb⟩, J⟩
  refine ⟨lim2, ?_⟩
  cases hf : codeAmong gpos ps.toList with
  | none =>
    refine wpAny_genexprCodeX hcode (cd.code hP2 ht) (cd.tab hP2) hf fun c' h' tk hx hge hlt hco' _ htab' _ => ?_
    obtain ⟨o1, vs, f1, tf, fl, tg, inF, tx, tt, op, _, _, _, _, _, _, _, _, _, htr, _⟩ := hco'
    exact cont _ h' tk _ hx (Nat.le_trans hge (Nat.le_of_lt hlt)) htab'.2 ⟨_, rfl⟩ htr
  | some cv =>
    refine wpAny_genexprCode_hit hcode (cd.code hP2 ht) hf ?_
    exact cont cv h2 tk ps (Heap.ExtBut.refl _ _) (Nat.le_refl _) hP2 ⟨#[], by simp⟩ ht
end
end DL
end
section
set_option Elab.async false
set_option linter.all false
set_option autoImplicit false
set_option maxRecDepth 100000
set_option maxHeartbeats 2000000
/-! any, all of generator expressions: the readings over plain data. -/
namespace DL
open PySem PySem.Spec L2
open PyProof.Rows hiding St

mutual
theorem reads_kx {h h' : Heap} {P : Addr} {op : Obj} (hp : h.get? P = some op) (hc : op.cls = .none) (k : Kx P h h') : ∀ {v : Value} {d : D} {as : List Addr}, Reads h v d as → Reads h' v d as
  | _, _, _, .none => .none
  | _, _, _, .bool b => .bool b
  | _, _, _, .int i t => .int i t
  | _, _, _, .str x t => .str x t
  | _, _, _, .list h1 h2 h3 h4 => .list (k _ _ (fun z => by rw [z, hp] at h1; cases h1; rw [hc] at h2; cases h2) h1) h2 h3 (readsAll_kx hp hc k h4)
  | _, _, _, .tuple h1 h2 h3 h4 => .tuple (k _ _ (fun z => by rw [z, hp] at h1; cases h1; rw [hc] at h2; cases h2) h1) h2 h3 (readsAll_kx hp hc k h4)
  | _, _, _, .dict h1 h2 h3 h4 h5 => .dict (k _ _ (fun z => by rw [z, hp] at h1; cases h1; rw [hc] at h2; cases h2) h1) h2 h3 (readsAll_kx hp hc k h4) (readsAll_kx hp hc k h5)
theorem readsAll_kx {h h' : Heap} {P : Addr} {op : Obj} (hp : h.get? P = some op) (hc : op.cls = .none) (k : Kx P h h') : ∀ {vs : List Value} {ds : List D} {as : List Addr}, ReadsAll h vs ds as → ReadsAll h' vs ds as
  | _, _, _, .nil => .nil
  | _, _, _, .cons h1 h2 => .cons (reads_kx hp hc k h1) (readsAll_kx hp hc k h2)
end
section
variable {X : Cx} {pins : List (Addr × Obj)} {σ : St} {H1 : Hp} {s0 : Shared} {P : Addr}
theorem tab_at (I : Inv X pins σ H1 s0) (t : GxR.TabG H1 P) : ∃ op, s0.heap.get? P = some op ∧ op.cls = .none ∧ (∀ v, op.data ≠ .cell v) ∧ ∃ ps, op.data = .fields ps := by
  obtain ⟨ps, hP, _⟩ := t
  exact ⟨_, I.hok P _ hP, rfl, (fun v z => by cases z), ps, rfl⟩
theorem RdX.kx {h' : Heap} {v : Value} {d : D} (I : Inv X pins σ H1 s0) (t : GxR.TabG H1 P) (r : RdX s0.heap v d) (k : Kx P s0.heap h') : RdX h' v d := by
  obtain ⟨op, e, c, _⟩ := tab_at I t
  obtain ⟨as, q⟩ := r
  exact ⟨as, reads_kx e c k q⟩
theorem base_kx {h' : Heap} {b : Addr} {o : Obj} (I : Inv X pins σ H1 s0) (t : GxR.TabG H1 P) (k : Kx P s0.heap h') (e : X.base.get? b = some o) : h'.get? b = some o := by
  obtain ⟨e1, e2⟩ := I.bs b o e
  refine k b o (fun z => ?_) e1
  obtain ⟨ps, hP, _⟩ := t
  rw [z, hP] at e2
  cases e2
theorem ns_kx {h' : Heap} {b : Addr} {m : Str → Option Value} (I : Inv X pins σ H1 s0) (t : GxR.TabG H1 P) (k : Kx P s0.heap h') (n : X.base.Ns b m) : h'.Ns b m := by
  obtain ⟨o, es, ep, e, r⟩ := n
  exact ⟨o, es, ep, base_kx I t k e, r⟩
/-- what a captured name holds -/
def Cap (X : Cx) (es : List Ent) (scope : Scope) (env : Env) (h : Heap) : Prop := ∀ (j : Nat) (y : Str) (d : D), es[j]? = some (.dat d) → X.N[j]? = some y → (y, NameKind.free) ∈ scope.names → X.env.scope.names.lookup y = some .cell → plain d = true → ∃ c u, env.cells.lookup y = some c ∧ h.IsCell c (some u) ∧ RdX h u d
theorem gp_lf {scope : Scope} {cenv : Env} {m : Str → Option Value} {s2 : Shared} {A' : Around} (I : Inv X pins σ H1 s0) (t : GxR.TabG H1 P) (G : Gp X P scope s0.heap cenv m s2 A') (hk : scope.kind = .function) : Lf X.K X.mg cenv m s2.heap := by
  obtain ⟨mb, hb1, hb2⟩ := I.ok.mod.blt
  obtain ⟨mc, hc1, hc2⟩ := I.ok.mod.nolimit
  exact ⟨⟨fun b o e => base_kx I t G.keep (I.ok.mod.kin b o e), ns_kx I t G.keep I.ok.mod.glob, ⟨mb, ns_kx I t G.keep hb1, hb2⟩, ⟨mc, ns_kx I t G.keep hc1, hc2⟩⟩, by rw [G.scp]; exact hk, by rw [G.glob]; exact I.ok.glob, G.blt, G.loc⟩
theorem gp_cap {p : Pr} {es : List Ent} {scope : Scope} {cenv : Env} {m : Str → Option Value} {s2 : Shared} {A' : Around} (I : Inv X pins σ H1 s0) (t : GxR.TabG H1 P) (ok : EnvOk X.K p H1 σ es) (hf : ∀ y ∈ scope.names, y.2 = .free → ∃ c, X.env.cells.lookup y.1 = some c) (G : Gp X P scope s0.heap cenv m s2 A') : Cap X es scope cenv s2.heap := fun j y d he hN hy hc hp => by
  obtain ⟨v, e1, r1⟩ := ok.dat he
  obtain ⟨m0, hn, hl⟩ := I.loc
  obtain ⟨u, ru, l⟩ := hl j y v hN e1 (.inr (.inl hc))
  obtain ⟨as, q⟩ := Dp.reads I d v u (r1.dp hp) ru
  rcases l with ⟨hk, _⟩ | ⟨_, c, hcl, hcell⟩
  · have hk' : X.env.scope.names.lookup y = some .local := hk
    rw [hc] at hk'
    cases hk'
  · obtain ⟨oc, ec, dc⟩ := hcell
    obtain ⟨op, ep, _, hcp, _⟩ := tab_at I t
    refine ⟨c, u, ?_, ⟨oc, G.keep c oc (fun z => ?_) ec, dc⟩, RdX.kx I t ⟨as, q⟩ G.keep⟩
    · rw [G.cells]
      exact NdefX.clo_has hf hy hcl
    · rw [z, ep] at ec
      cases ec
      exact hcp _ dc
end
section
variable {T : Addr → Prop} {X : Cx} {es : List Ent} {elt iter e2 : Expr} {scope : Scope} {k : Nat} {c P : Addr} {gpos pos p1 : Pos}
/-- the value of all(..), of any(..) -/
def aa (isAll : Bool) (n : Nat) (tr : Nat → Bool) : Bool := if isAll = true then (List.range n).all tr else (List.range n).any tr
def aaN (isAll : Bool) : Str := if isAll = true then "all" else "any"
theorem call_aa {pins : List (Addr × Obj)} {σ : St} {H1 : Hp} {g : Addr} {s5 : Shared} {N : Nat} {tr : Nat → Bool} {Q : VK} (isAll : Bool) (h : Rdy X pins σ H1 P N tr g s5) (q : ∀ H2, GxR.Tabbed P H1 H2 → Q (.bl (aa isAll N tr)) H2) :
    wpAny (model X.prog X.w) X.A (call (.builtin (if isAll = true then "all" else "any")) [.ref g]) (EP X pins σ Q) X.xe s5 := by
  obtain ⟨fp, wr, G, F, S, W, hst, htr, hI⟩ := h
  cases isAll with
  | true =>
    refine call_all_walkS (W.self 0 _ _ _ hst ⟨g, fp, wr, G, _, F, S, _, rfl, W, hst, htr, fun s' hmv => ?_⟩)
    obtain ⟨H2, hT, J⟩ := hI s' hmv
    exact ⟨.bl _, H2, J, rfl, q H2 hT⟩
  | false =>
    refine call_any_walkS (W.self 0 _ _ _ hst ⟨g, fp, wr, G, _, F, S, _, rfl, W, hst, htr, fun s' hmv => ?_⟩)
    obtain ⟨H2, hT, J⟩ := hI s' hmv
    exact ⟨.bl _, H2, J, rfl, q H2 hT⟩
theorem tabbed_gr {p : Pr} {H1 H2 : Hp} (g : Good T p H1) (hP : T P) (t : GxR.Tabbed P H1 H2) : Gr0 p H1 H2 := fun b x e _ => by
  by_cases hb : b = P
  · obtain ⟨⟨qs, e2, t2⟩, _⟩ := t
    obtain ⟨ps, e1, t1⟩ := g.tabs P hP
    rw [hb, e1] at e
    cases e
    exact ⟨_, by rw [hb]; exact e2, .inr (.inl ⟨ps, qs, rfl, rfl, fun _ => t2⟩)⟩
  · exact ⟨x, by rw [t.2 b hb]; exact e, .refl⟩
/-! the sources -/
theorem src_seq {pins : List (Addr × Obj)} {σ : St} {H : Hp} {s : Shared} {p : Pr} {ds : List D} (b : Bool) (hP : T P) (ha : Ev T X es iter (Eq (seqD b ds))) (hpl : ∀ d ∈ ds, plain d = true) (I : Inv X pins σ H s) (g : Good T p H) (o : EnvOk X.K p H σ es) :
    wpAny (model X.prog X.w) X.A (eval iter X.env) (fun xv s1 => wpAny (model X.prog X.w) X.A (pyIter xv) (Src1 X pins σ P (fun h i v => ∃ d, ds[i]? = some d ∧ RdX h v d) (fun H1 s0 N => Gr0 p H H1 ∧ N = ds.length)) X.xe s1) X.xe s := by
  refine thn (ha p H σ (fun v H1 => Gr0 p H H1 ∧ Rp X.K p.own H1 v (seqD b ds)) g o (fun H1 v d g1 r1 q1 => by subst q1; exact ⟨g1, r1⟩) pins s I) fun v s1 ⟨x, H1, I1, r1, g1, rp⟩ => ?_
  obtain ⟨a, xs, rfl, t, rs⟩ := Rp.src b rp
  cases r1
  obtain ⟨its, rv, hsq⟩ := sq_seq b I1 (t.sq b)
  have tg := (g.go g1).tabs P hP
  obtain ⟨op, eP, cP, _⟩ := tab_at I1 tg
  have ltP : P < s1.heap.objs.size := Heap.lt_size eP
  have aP : a ≠ P := fun z => by
    rw [z] at hsq
    cases b with
    | true =>
      obtain ⟨o, e, c, _⟩ := (show s1.heap.IsList P its.toArray from hsq)
      rw [eP] at e
      cases e
      rw [cP] at c
      cases c
    | false =>
      obtain ⟨o, e, c, _⟩ := (show s1.heap.IsTuple P its.toArray from hsq)
      rw [eP] at e
      cases e
      rw [cP] at c
      cases c
  refine (begins b a its.toArray).iter X.prog X.w X.A X.xe s1 _ hsq ?_
  have kp : Kp s1.heap (s1.heap.push (iterO b a)) := fun b o e => Heap.get?_push_of_some _ e
  refine ⟨H1, s1, s1.heap.push (iterO b a), s1.toks, s1.heap.objs.size, [s1.heap.objs.size], ds.length, rfl, rfl, I1, kp, fun b hb => ?_, by rw [Heap.size_push]; exact Nat.le_succ _, tg, ⟨g1, rfl⟩, fun h4 k4 hz => ?_⟩
  · rw [List.mem_singleton.mp hb, Heap.size_push]
    exact ⟨Nat.le_refl _, Nat.lt_succ_self _⟩
  · have hl : its.toArray.size = ds.length := by rw [List.size_toArray, ← rv.length, rs.length]
    have alt := isSeq_lt b hsq
    have hW : ∀ A' : Around, A'.handled = none → Walks X.prog X.w A' s1.heap.objs.size [s1.heap.objs.size, a] [s1.heap.objs.size] its.toArray.size (fun i v => its.toArray[i]? = some v) (fun i h => isIter b h s1.heap.objs.size a i ∧ isSeq b h a its.toArray) := fun A' hA => by
      cases b with
      | true => exact Walks.list hA _ a (Nat.ne_of_lt alt) its.toArray
      | false => exact Walks.tuple hA _ a (Nat.ne_of_lt alt) its.toArray
    rw [hl] at hW
    have eit : h4.get? s1.heap.objs.size = some (iterO b a) := k4 _ _ (Nat.ne_of_gt ltP) (Heap.get?_push_size _ (by cases b <;> rfl))
    refine ⟨[s1.heap.objs.size, a], _, _, hW, ⟨isIter_new b eit, isSeq_at b hsq fun o e => k4 a o aP (kp a o e)⟩, fun b' hb => ?_, fun i v hv => ?_⟩
    · rw [Heap.size_push] at hz
      have e' : b' = s1.heap.objs.size ∨ b' = a := by simpa using hb
      rcases e' with z | z
      · rw [z]
        exact hz
      · rw [z]
        exact Nat.lt_of_lt_of_le alt (Nat.le_trans (Nat.le_succ _) hz)
    · have hv' : its[i]? = some v := by simpa using hv
      have hi : i < xs.length := by
        obtain ⟨hi, _⟩ := List.getElem?_eq_some_iff.mp hv'
        rw [rv.length]
        exact hi
      obtain ⟨v', ev', ry⟩ := rv.get (List.getElem?_eq_getElem hi)
      rw [hv'] at ev'
      cases ev'
      have ey : xs[i]? = some xs[i] := List.getElem?_eq_getElem hi
      obtain ⟨d, ed, rd⟩ := rs.get' ey
      exact ⟨d, ed, Dp.reads I1 d xs[i] v (rd.dp (hpl d (List.mem_of_getElem? ed))) ry⟩
/-- the fixed items of a list, a tuple, drawn -/
theorem drawsF {prog : Program} {w : World} {A : Around} (hh : A.handled = none) (b : Bool) (it a : Addr) (hne : a ≠ it) (its : Array Value) : Draws prog w A it [it, a] its.size (fun i v => its[i]? = some v) (fun i h => isIter b h it a i ∧ isSeq b h a its) := by
  cases b with
  | true => exact Draws.list hh it a hne its
  | false => exact Draws.tuple hh it a hne its
theorem seq_ne {X : Cx} {pins : List (Addr × Obj)} {σ : St} {H1 : Hp} {s1 : Shared} {b : Bool} {a : Addr} {its : Array Value} (I : Inv X pins σ H1 s1) (t : GxR.TabG H1 P) (h : isSeq b s1.heap a its) : a ≠ P := fun z => by
  obtain ⟨op, eP, cP, _⟩ := tab_at I t
  rw [z] at h
  cases b with
  | true =>
    obtain ⟨o, e, c, _⟩ := (show s1.heap.IsList P its from h)
    rw [eP] at e
    cases e
    rw [cP] at c
    cases c
  | false =>
    obtain ⟨o, e, c, _⟩ := (show s1.heap.IsTuple P its from h)
    rw [eP] at e
    cases e
    rw [cP] at c
    cases c
theorem items_rd {X : Cx} {pins : List (Addr × Obj)} {σ : St} {H1 : Hp} {s1 : Shared} {O : Addr → Prop} {xs : List V} {its : List Value} {ds : List D} (I : Inv X pins σ H1 s1) (rv : Vals xs its) (rs : Rps X.K O H1 xs ds) (hpl : ∀ d ∈ ds, plain d = true) {i : Nat} {v : Value} (h : its.toArray[i]? = some v) : ∃ d, ds[i]? = some d ∧ RdX s1.heap v d := by
  have hv' : its[i]? = some v := by simpa using h
  have hi : i < xs.length := by
    obtain ⟨hi, _⟩ := List.getElem?_eq_some_iff.mp hv'
    rw [rv.length]
    exact hi
  obtain ⟨v', ev', ry⟩ := rv.get (List.getElem?_eq_getElem hi)
  rw [hv'] at ev'
  cases ev'
  obtain ⟨d, ed, rd⟩ := rs.get' (List.getElem?_eq_getElem hi)
  exact ⟨d, ed, Dp.reads I d xs[i] v (rd.dp (hpl d (List.mem_of_getElem? ed))) ry⟩
theorem src_zip {pins : List (Addr × Obj)} {σ : St} {H : Hp} {s : Shared} {p : Pr} {ds fs : List D} {pz zpos : Pos} (b1 b2 : Bool) (hP : T P) (hm : X.mg "zip" = none) (ha : Ev T X es iter (Eq (seqD b1 ds))) (hb : Ev T X es e2 (Eq (seqD b2 fs))) (hp1 : ∀ d ∈ ds, plain d = true) (hp2 : ∀ d ∈ fs, plain d = true) (I : Inv X pins σ H s) (g : Good T p H) (o : EnvOk X.K p H σ es) (hg : Gl X "zip" := by rfl)
    (hs : starEach [iter, e2] X.env = (false, eval iter X.env) :: starEach [e2] X.env := by rfl) (hs2 : starEach [e2] X.env = (false, eval e2 X.env) :: starEach [] X.env := by rfl) (hpl : (backTo zpos (starEach [e2] X.env)).any (·.1) = false := by rfl) :
    wpAny (model X.prog X.w) X.A (eval (.Call (.Name "zip" pz) [iter, e2] [] zpos) X.env) (fun xv s1 => wpAny (model X.prog X.w) X.A (pyIter xv) (Src2 X pins σ P (fun h i va vb => ∃ da db, ds[i]? = some da ∧ fs[i]? = some db ∧ RdX h va da ∧ RdX h vb db) (fun H1 s0 N => Gr0 p H H1 ∧ N = min ds.length fs.length)) X.xe s1) X.xe s := by
  refine Call_ (ld_blt I hg hm PyProof.Rows.boot_zip (PyProof.Rows.callWith_type1 (thn ((pa_cons pe_w (pa_cons pe_w pa_nil hs2) hs).run zpos pins s σ H (fun vs H1 => Gr0 p H H1 ∧ ∃ x y, vs = [x, y] ∧ Rp X.K p.own H1 x (seqD b1 ds) ∧ Rp X.K p.own H1 y (seqD b2 fs)) I
    (ha p H σ _ g o fun H1 x dx g1 r1 q1 => hb p H1 σ _ (g.go g1) (o.go g g1) fun H2 y dy g2 r2 q2 => by
      subst q1 q2
      exact ⟨g1.trans g2, x, y, rfl, r1.mono g2.mono, r2⟩)) fun us s1 ⟨vs, H1, I1, r1, g1, x, y, ev, rx, ry⟩ => ?_) hs hpl))
  subst ev
  obtain ⟨a1, xs, e1, t1, rs1⟩ := Rp.src b1 rx
  obtain ⟨a2, ys, e2', t2, rs2⟩ := Rp.src b2 ry
  subst e1 e2'
  cases r1 with
  | cons r rr =>
    cases rr with
    | cons r' rr =>
      cases rr
      cases r
      cases r'
      obtain ⟨its1, rv1, q1⟩ := sq_seq b1 I1 (t1.sq b1)
      obtain ⟨its2, rv2, q2⟩ := sq_seq b2 I1 (t2.sq b2)
      have tg := (g.go g1).tabs P hP
      obtain ⟨op, eP, cP, _⟩ := tab_at I1 tg
      have ltP : P < s1.heap.objs.size := Heap.lt_size eP
      have n1 := seq_ne I1 tg q1
      have n2 := seq_ne I1 tg q2
      have lt1 := isSeq_lt b1 q1
      have lt2 := isSeq_lt b2 q2
      refine zip_begins2 (begins b1 a1 its1.toArray) (begins b2 a2 its2.toArray) q1 q2 fun h' z t ou i1 i2 sz hk => wpAny_pyIter_zip z ?_
      have hl1 : its1.toArray.size = ds.length := by rw [List.size_toArray, ← rv1.length, rs1.length]
      have hl2 : its2.toArray.size = fs.length := by rw [List.size_toArray, ← rv2.length, rs2.length]
      refine ⟨H1, s1, h', s1.toks, s1.heap.objs.size + 4, [s1.heap.objs.size + 4, s1.heap.objs.size + 3, s1.heap.objs.size, s1.heap.objs.size + 1], min ds.length fs.length, rfl, rfl, I1, hk, fun b hb => ?_, by rw [sz]; exact Nat.le_add_right _ _, tg, ⟨g1, rfl⟩, fun h4 k4 hz => ?_⟩
      · simp only [List.mem_cons, List.not_mem_nil, or_false] at hb
        rw [sz]
        rcases hb with z | z | z | z <;> rw [z] <;> exact ⟨by first | exact Nat.le_add_right _ _ | exact Nat.le_refl _, by first | exact Nat.add_lt_add_left (by decide) _ | exact Nat.lt_add_of_pos_right (by decide)⟩
      · have nP : ∀ j : Nat, s1.heap.objs.size + j ≠ P := fun j => Nat.ne_of_gt (Nat.lt_of_lt_of_le ltP (Nat.le_add_right _ _))
        have hW := fun (A' : Around) (hA : A'.handled = none) => (WalksT.zipD2 (zip_sep2 (N := s1.heap.objs.size) (fp1 := [a1]) (fp2 := [a2]) (fun b hb => by rw [List.mem_singleton.mp hb]; exact lt1) (fun b hb => by rw [List.mem_singleton.mp hb]; exact lt2))
            (drawsF (prog := X.prog) (w := X.w) (A := A'.in1) hA b1 s1.heap.objs.size a1 (Nat.ne_of_lt lt1) its1.toArray) (drawsF (A := A'.in1) hA b2 (s1.heap.objs.size + 1) a2 (Nat.ne_of_lt (Nat.lt_succ_of_lt lt2)) its2.toArray)).toU
        rw [hl1, hl2] at hW
        refine ⟨_, _, _, _, hW, ⟨k4 _ _ (nP 4) z, k4 _ _ (nP 2) t, ⟨_, _, k4 _ _ (nP 3) ou⟩, ⟨isIter_at b1 (isIter_new b1 i1) fun o e => k4 _ o (nP 0) e, isSeq_at b1 q1 fun o e => k4 a1 o n1 (hk a1 o e)⟩, ⟨isIter_at b2 (isIter_new b2 i2) fun o e => k4 _ o (nP 1) e, isSeq_at b2 q2 fun o e => k4 a2 o n2 (hk a2 o e)⟩⟩, fun b hb => ?_, fun i vals hv => ?_⟩
        · have hz' : s1.heap.objs.size + 5 ≤ h4.objs.size := by rw [← sz]; exact hz
          simp only [List.mem_cons, List.mem_append, List.not_mem_nil, or_false] at hb
          rcases hb with z | z | z | (z | z) | z | z
          · rw [z]; exact Nat.lt_of_lt_of_le (Nat.add_lt_add_left (by decide) _) hz'
          · rw [z]; exact Nat.lt_of_lt_of_le (Nat.add_lt_add_left (by decide) _) hz'
          · rw [z]; exact Nat.lt_of_lt_of_le (Nat.add_lt_add_left (by decide) _) hz'
          · rw [z]; exact Nat.lt_of_lt_of_le (Nat.lt_add_of_pos_right (by decide)) hz'
          · rw [z]; exact Nat.lt_of_lt_of_le lt1 (Nat.le_trans (Nat.le_add_right _ _) hz')
          · rw [z]; exact Nat.lt_of_lt_of_le (Nat.add_lt_add_left (by decide) _) hz'
          · rw [z]; exact Nat.lt_of_lt_of_le lt2 (Nat.le_trans (Nat.le_add_right _ _) hz')
        · obtain ⟨va, vb, h1, h2, ev⟩ := hv
          obtain ⟨da, ea, ra⟩ := items_rd I1 rv1 rs1 hp1 h1
          obtain ⟨db, eb, rb⟩ := items_rd I1 rv2 rs2 hp2 h2
          exact ⟨va, vb, ev, da, db, ea, eb, ra, rb⟩
/-! the values -/
theorem ev_gen1 {x : Str} {px : Pos} {ds : List D} {tr : Nat → Bool} (isAll : Bool) (b : Bool) (hr : Room k X.A) (hc : X.calm = true) (hm : X.mg (aaN isAll) = none) (hP : T P) (TB : GxR.TabB X.base X.mg c P) (hcode : X.env.code = .ref c) (S : GxR.GenS X.env scope x) (ha : Ev T X es iter (Eq (seqD b ds))) (hpl : ∀ d ∈ ds, plain d = true)
    (hel : ∀ (i : Nat) (d : D) (env : Env) (m : Str → Option Value) (h : Heap) (v : Value), ds[i]? = some d → env.scope = scope → Lf X.K X.mg env m h → Cap X es scope env h → m x = some v → RdX h v d → Le X.prog X.w (X.A.units + 8) (X.A.depth + 1) env h elt (.bool (tr i)))
    (hg : Gl X (aaN isAll)) (hs : ∀ v, genFold iter X.env v = pure v := by intro _; rfl)
    (he : starEach [.GeneratorExp elt [⟨.Name x px, iter, [], 0⟩] scope gpos] X.env = (false, eval (.GeneratorExp elt [⟨.Name x px, iter, [], 0⟩] scope gpos) X.env) :: starEach [] X.env := by rfl) :
    Ev T X es (.Call (.Name (aaN isAll) p1) [.GeneratorExp elt [⟨.Name x px, iter, [], 0⟩] scope gpos] [] pos) (Eq (.bool (aa isAll ds.length tr))) := fun p H σ Q g o kk pins s I => by
  refine wpAny_Call_Name_kw (ld_blt I hg hm (u := .builtin (if isAll = true then "all" else "any")) (by cases isAll <;> decide +kernel) ?_ (by cases isAll <;> decide) (by cases isAll <;> decide))
  refine PyProof.Rows.callWith_builtin1 ?_ he (by rfl)
  rw [he]
  show wpAny _ _ (spliced ((false, eval (.GeneratorExp elt [⟨.Name x px, iter, [], 0⟩] scope gpos) X.env) :: backTo pos (starEach [] X.env))) _ _ s
  refine Calls.spliced_cons (gen1 hr TB hcode S hs (src_seq b hP ha hpl I g o) fun H1 s0 N ⟨g1, eN⟩ I1 => ⟨tr, fun i v cenv m A' E' s2 G hV hmx => ?_, fun gg s5 hR => Calls.spliced_nil (call_aa isAll hR fun H2 ht => ?_)⟩)
  · obtain ⟨d, ed, rd⟩ := hV
    have tg := (g.go g1).tabs P hP
    refine wpAny_mono (hel i d cenv m s2.heap v ed G.scp (gp_lf I1 tg G S.kind) (gp_cap I1 tg (o.go g g1) S.free G) hmx (RdX.kx I1 tg rd G.keep) A' E' s2 G.hh G.hd G.hu (fun _ _ e => e)) (fun y s3 ⟨⟨as, r⟩, q⟩ => ?_) fun _ _ z => z
    cases r
    exact ⟨rfl, q⟩
  · subst eN
    exact kk H2 _ _ (g1.trans (tabbed_gr (g.go g1) hP ht)) (.bl _) rfl
theorem ev_genZ {xa xb : Str} {pa pb pt pz zpos : Pos} {kt : Nat} {ds fs : List D} {tr : Nat → Bool} (isAll : Bool) (b1 b2 : Bool) (hr : Room k X.A) (hc : X.calm = true) (hm : X.mg (aaN isAll) = none) (hmz : X.mg "zip" = none) (hP : T P) (TB : GxR.TabB X.base X.mg c P) (hcode : X.env.code = .ref c) (S : GxR.GenS X.env scope xa) (hxb : scope.names.lookup xb = some .local) (hab : xa ≠ xb)
    (ha : Ev T X es iter (Eq (seqD b1 ds))) (hb : Ev T X es e2 (Eq (seqD b2 fs))) (hp1 : ∀ d ∈ ds, plain d = true) (hp2 : ∀ d ∈ fs, plain d = true)
    (hel : ∀ (i : Nat) (da db : D) (env : Env) (m : Str → Option Value) (h : Heap) (va vb : Value), ds[i]? = some da → fs[i]? = some db → env.scope = scope → Lf X.K X.mg env m h → Cap X es scope env h → m xa = some va → m xb = some vb → RdX h va da → RdX h vb db → Le X.prog X.w (X.A.units + 8) (X.A.depth + 1) env h elt (.bool (tr i)))
    (hg : Gl X (aaN isAll)) (hgz : Gl X "zip" := by rfl) (hs : ∀ v, genFold (.Call (.Name "zip" pz) [iter, e2] [] zpos) X.env v = pure v := by intro _; rfl)
    (hz1 : starEach [iter, e2] X.env = (false, eval iter X.env) :: starEach [e2] X.env := by rfl) (hz2 : starEach [e2] X.env = (false, eval e2 X.env) :: starEach [] X.env := by rfl) (hz3 : (backTo zpos (starEach [e2] X.env)).any (·.1) = false := by rfl)
    (he : starEach [.GeneratorExp elt [⟨.Tuple [.Name xa pa, .Name xb pb] kt pt, .Call (.Name "zip" pz) [iter, e2] [] zpos, [], 0⟩] scope gpos] X.env = (false, eval (.GeneratorExp elt [⟨.Tuple [.Name xa pa, .Name xb pb] kt pt, .Call (.Name "zip" pz) [iter, e2] [] zpos, [], 0⟩] scope gpos) X.env) :: starEach [] X.env := by rfl) :
    Ev T X es (.Call (.Name (aaN isAll) p1) [.GeneratorExp elt [⟨.Tuple [.Name xa pa, .Name xb pb] kt pt, .Call (.Name "zip" pz) [iter, e2] [] zpos, [], 0⟩] scope gpos] [] pos) (Eq (.bool (aa isAll (min ds.length fs.length) tr))) := fun p H σ Q g o kk pins s I => by
  refine wpAny_Call_Name_kw (ld_blt I hg hm (u := .builtin (if isAll = true then "all" else "any")) (by cases isAll <;> decide +kernel) ?_ (by cases isAll <;> decide) (by cases isAll <;> decide))
  refine PyProof.Rows.callWith_builtin1 ?_ he (by rfl)
  rw [he]
  show wpAny _ _ (spliced ((false, eval (.GeneratorExp elt [⟨.Tuple [.Name xa pa, .Name xb pb] kt pt, .Call (.Name "zip" pz) [iter, e2] [] zpos, [], 0⟩] scope gpos) X.env) :: backTo pos (starEach [] X.env))) _ _ s
  refine Calls.spliced_cons (gen2 hr TB hcode S hxb hab hs (src_zip b1 b2 hP hmz ha hb hp1 hp2 I g o hgz hz1 hz2 hz3) fun H1 s0 N ⟨g1, eN⟩ I1 => ⟨tr, fun i va vb cenv m A' E' s2 G hV hma hmb => ?_, fun gg s5 hR => Calls.spliced_nil (call_aa isAll hR fun H2 ht => ?_)⟩)
  · obtain ⟨da, db, ea, eb, ra, rb⟩ := hV
    have tg := (g.go g1).tabs P hP
    refine wpAny_mono (hel i da db cenv m s2.heap va vb ea eb G.scp (gp_lf I1 tg G S.kind) (gp_cap I1 tg (o.go g g1) S.free G) hma hmb (RdX.kx I1 tg ra G.keep) (RdX.kx I1 tg rb G.keep) A' E' s2 G.hh G.hd G.hu (fun _ _ e => e)) (fun y s3 ⟨⟨as, r⟩, q⟩ => ?_) fun _ _ z => z
    cases r
    exact ⟨rfl, q⟩
  · subst eN
    exact kk H2 _ _ (g1.trans (tabbed_gr (g.go g1) hP ht)) (.bl _) rfl
end
end DL
end
section
set_option Elab.async false
set_option linter.all false
set_option autoImplicit false
set_option maxRecDepth 100000
set_option maxHeartbeats 2000000
/-! any, all over a dict's values. -/
namespace DL
open PySem PySem.Spec L2
open PyProof.Rows hiding St
section
variable {T : Addr → Prop} {X : Cx} {es : List Ent} {elt iter e2 : Expr} {scope : Scope} {k : Nat} {c P : Addr} {gpos pos p1 apos cpos : Pos}
theorem raw_at {pins : List (Addr × Obj)} {σ : St} {H1 : Hp} {s1 : Shared} {d : Addr} {kvs : KD} (I : Inv X pins σ H1 s1) (h : H1 d = some (.dT (encK kvs))) :
    (d == sysModules) = false ∧ ∃ (xs : List (List Key × Addr × Value)) (es : Array DictEntry) (ep : Nat), Paired (fun (p : List Key × V) (q : List Key × Addr × Value) => p.1 = q.1 ∧ H1 q.2.1 = some (.tup (p.1.map kV)) ∧ RelV p.2 q.2.2) (encK kvs) xs ∧ s1.heap.DictRaw d es ep ∧ es.size = kvs.length ∧ ∀ i (hi : i < es.size), ∃ y, xs[i]? = some y ∧ es[i].key = .ref y.2.1 ∧ es[i].val = y.2.2 := by
  obtain ⟨hl, hs, xs, pr, o, es, ep, e1, e2, e3, e4, _⟩ := I.hok d _ h
  refine ⟨hs, xs, es, ep, pr, ⟨o, e1, e2, e3⟩, ?_, fun i hi => ?_⟩
  · have l1 := congrArg List.length e4
    have l2 := Paired.length pr
    rw [List.length_map] at l1
    unfold encK at l2
    rw [List.length_map] at l2
    rw [← Array.length_toList, l1, ← l2]
  · have hx : i < xs.length := by
      have l1 := congrArg List.length e4
      rw [List.length_map, Array.length_toList] at l1
      omega
    have h2 : es.toList[i]? = some es[i] := by
      rw [List.getElem?_eq_getElem (by rw [Array.length_toList]; exact hi)]
      simp
    rw [e4, List.getElem?_map, List.getElem?_eq_getElem hx] at h2
    have h3 := Option.some.inj h2
    exact ⟨xs[i], List.getElem?_eq_getElem hx, by rw [← h3]; rfl, by rw [← h3]; rfl⟩
theorem src_vals {pins : List (Addr × Obj)} {σ : St} {H : Hp} {s : Shared} {p : Pr} {kvs : KD} (hP : T P) (ha : EvR T X es e2 (Eq (dicD kvs))) (I : Inv X pins σ H s) (g : Good T p H) (o : EnvOk X.K p H σ es)
    (hbase : attributeBase e2 "values" X.env (eval e2 X.env) = eval e2 X.env := by rfl) (hline : (apos.endLine == cpos.line) = true := by rfl) :
    wpAny (model X.prog X.w) X.A (eval (.Call (.Attribute e2 "values" apos) [] [] cpos) X.env) (fun xv s1 => wpAny (model X.prog X.w) X.A (pyIter xv) (Src1 X pins σ P (fun h i v => ∃ q, kvs[i]? = some q ∧ RdX h v (.int q.2)) (fun H1 s0 N => Gr0 p H H1 ∧ N = kvs.length)) X.xe s1) X.xe s := by
  refine wpAny_Call_method (T := "dict") (id := "dict.values") hbase rfl hline F.plainAttrs_dict F.slot_dict_values F.type_dict_values (thn (ha p H σ (fun v H1 => Gr0 p H H1 ∧ ∃ d, v = .ref d ∧ H1 d = some (.dT (encK kvs))) g o (fun H1 v d g1 r1 q1 => by subst q1; exact ⟨g1, r1.dic⟩) pins s I) fun u s1 ⟨x, H1, I1, rx, g1, d, ex, hd⟩ => ?_)
  subst ex
  obtain rfl : u = Value.ref d := rx
  obtain ⟨hs, xs, es', ep, pr, hm, hsz, hx⟩ := raw_at I1 hd
  have tg := (g.go g1).tabs P hP
  obtain ⟨op, eP, cP, _⟩ := tab_at I1 tg
  have ltP : P < s1.heap.objs.size := Heap.lt_size eP
  have hm' := hm
  obtain ⟨od, hod, hex, hdat⟩ := hm'
  have hd2 := hex.1
  have dP : d ≠ P := fun z => by
    rw [z, eP] at hod
    cases hod
    rw [cP] at hd2
    cases hd2
  have ltd : d < s1.heap.objs.size := Heap.lt_size hod
  refine ⟨⟨od, hod, hex.1⟩, fun b e => by cases e; exact ⟨od, hod, hex.2.1⟩, ?_⟩
  refine method_meetsIn F.slot_dict_values F.entry_dict_values rfl (PySem.evalArgs_none ⟨rfl, ⟨od, hod, hex.1⟩, F.args_dict_values_1 _, _, meets_dict_values_raw d hs, ⟨⟨es', ep, hm⟩, ?_⟩⟩)
  have kp1 : Kp s1.heap (s1.heap.push { cls := .type "dict_values", data := .fields #[.ref d] }) := fun b o e => Heap.get?_push_of_some _ e
  have hm1 : (s1.heap.push { cls := .type "dict_values", data := .fields #[.ref d] }).DictRaw d es' ep := ⟨od, kp1 _ _ hod, hex, hdat⟩
  refine wpAny_pyIter_values_raw (d := d) ⟨_, Heap.get?_push_size _ rfl, rfl, rfl⟩ hm1 ?_
  have hz1 : (s1.heap.push { cls := .type "dict_values", data := .fields #[.ref d] }).objs.size = s1.heap.objs.size + 1 := Heap.size_push _ _
  refine ⟨H1, s1, (s1.heap.push { cls := .type "dict_values", data := .fields #[.ref d] }).push { cls := .type "dict_valueiterator", data := .fields #[.ref d, .int 0 0, .int es'.size 0, .int ep 0] }, s1.toks, s1.heap.objs.size + 1, [s1.heap.objs.size + 1], es'.size, by rw [hz1], rfl, I1, fun b o e => Heap.get?_push_of_some _ (kp1 b o e), fun b hb => ?_, by rw [Heap.size_push, hz1]; omega, tg, ⟨g1, hsz⟩, fun h4 k4 hz => ?_⟩
  · rw [List.mem_singleton.mp hb, Heap.size_push, hz1]
    exact ⟨Nat.le_succ _, Nat.lt_succ_self _⟩
  · rw [Heap.size_push, hz1] at hz
    have hW : ∀ A' : Around, A'.handled = none → Walks X.prog X.w A' (s1.heap.objs.size + 1) [s1.heap.objs.size + 1, d] [s1.heap.objs.size + 1] es'.size (fun i v => ∃ hi : i < es'.size, v = es'[i].val) (fun i h => h.IsValIter (s1.heap.objs.size + 1) d i es'.size ep ∧ h.DictRaw d es' ep) := fun A' hA => Walks.rawValues hA _ d (Nat.ne_of_lt (Nat.lt_succ_of_lt ltd)) es' ep
    have eit : ((s1.heap.push { cls := .type "dict_values", data := .fields #[.ref d] }).push { cls := .type "dict_valueiterator", data := .fields #[.ref d, .int 0 0, .int es'.size 0, .int ep 0] }).get? (s1.heap.push { cls := .type "dict_values", data := .fields #[.ref d] }).objs.size = some { cls := .type "dict_valueiterator", data := .fields #[.ref d, .int 0 0, .int es'.size 0, .int ep 0] } := Heap.get?_push_size _ rfl
    rw [hz1] at eit
    refine ⟨[s1.heap.objs.size + 1, d], _, _, hW, ⟨⟨_, k4 _ _ (Nat.ne_of_gt (Nat.lt_succ_of_lt ltP)) eit, rfl, rfl⟩, ⟨od, k4 _ _ dP (Heap.get?_push_of_some _ (kp1 _ _ hod)), hex, hdat⟩⟩, fun b hb => ?_, fun i v hv => ?_⟩
    · have e' : b = s1.heap.objs.size + 1 ∨ b = d := by simpa using hb
      rcases e' with z | z
      · rw [z]
        exact Nat.lt_of_lt_of_le (Nat.lt_succ_self _) hz
      · rw [z]
        exact Nat.lt_of_lt_of_le (Nat.lt_succ_of_lt (Nat.lt_succ_of_lt ltd)) hz
    · obtain ⟨hi, rfl⟩ := hv
      obtain ⟨y, e1, _, e3⟩ := hx i (by omega)
      obtain ⟨q, e4, r⟩ := DX.pget pr e1
      unfold encK at e4
      rw [List.getElem?_map] at e4
      obtain ⟨q0, e5, e6⟩ := Option.map_eq_some_iff.mp e4
      subst e6
      refine ⟨q0, e5, ?_⟩
      rw [e3]
      obtain ⟨t, et⟩ := r.2.2
      rw [et]
      exact ⟨_, .int _ t⟩
theorem ev_genV {x : Str} {px : Pos} {kvs : KD} {tr : Nat → Bool} (isAll : Bool) (hr : Room k X.A) (hc : X.calm = true) (hm : X.mg (aaN isAll) = none) (hP : T P) (TB : GxR.TabB X.base X.mg c P) (hcode : X.env.code = .ref c) (S : GxR.GenS X.env scope x) (ha : EvR T X es e2 (Eq (dicD kvs)))
    (hel : ∀ (i : Nat) (q : List Int × Int) (env : Env) (m : Str → Option Value) (h : Heap) (v : Value), kvs[i]? = some q → env.scope = scope → Lf X.K X.mg env m h → m x = some v → RdX h v (.int q.2) → Le X.prog X.w (X.A.units + 8) (X.A.depth + 1) env h elt (.bool (tr i)))
    (hg : Gl X (aaN isAll)) (hs : ∀ v, genFold (.Call (.Attribute e2 "values" apos) [] [] cpos) X.env v = pure v := by intro _; rfl)
    (he : starEach [.GeneratorExp elt [⟨.Name x px, .Call (.Attribute e2 "values" apos) [] [] cpos, [], 0⟩] scope gpos] X.env = (false, eval (.GeneratorExp elt [⟨.Name x px, .Call (.Attribute e2 "values" apos) [] [] cpos, [], 0⟩] scope gpos) X.env) :: starEach [] X.env := by rfl)
    (hbase : attributeBase e2 "values" X.env (eval e2 X.env) = eval e2 X.env := by rfl) (hline : (apos.endLine == cpos.line) = true := by rfl) :
    Ev T X es (.Call (.Name (aaN isAll) p1) [.GeneratorExp elt [⟨.Name x px, .Call (.Attribute e2 "values" apos) [] [] cpos, [], 0⟩] scope gpos] [] pos) (Eq (.bool (aa isAll kvs.length tr))) := fun p H σ Q g o kk pins s I => by
  refine wpAny_Call_Name_kw (ld_blt I hg hm (u := .builtin (if isAll = true then "all" else "any")) (by cases isAll <;> decide +kernel) ?_ (by cases isAll <;> decide) (by cases isAll <;> decide))
  refine PyProof.Rows.callWith_builtin1 ?_ he (by rfl)
  rw [he]
  show wpAny _ _ (spliced ((false, eval (.GeneratorExp elt [⟨.Name x px, .Call (.Attribute e2 "values" apos) [] [] cpos, [], 0⟩] scope gpos) X.env) :: backTo pos (starEach [] X.env))) _ _ s
  refine Calls.spliced_cons (gen1 hr TB hcode S hs (src_vals hP ha I g o hbase hline) fun H1 s0 N ⟨g1, eN⟩ I1 => ⟨tr, fun i v cenv m A' E' s2 G hV hmx => ?_, fun gg s5 hR => Calls.spliced_nil (call_aa isAll hR fun H2 ht => ?_)⟩)
  · obtain ⟨d, ed, rd⟩ := hV
    have tg := (g.go g1).tabs P hP
    refine wpAny_mono (hel i d cenv m s2.heap v ed G.scp (gp_lf I1 tg G S.kind) hmx (RdX.kx I1 tg rd G.keep) A' E' s2 G.hh G.hd G.hu (fun _ _ e => e)) (fun y s3 ⟨⟨as, r⟩, q⟩ => ?_) fun _ _ z => z
    cases r
    exact ⟨rfl, q⟩
  · subst eN
    exact kk H2 _ _ (g1.trans (tabbed_gr (g.go g1) hP ht)) (.bl _) rfl
end
end DL
end
section
set_option Elab.async false
set_option linter.all false
set_option autoImplicit false
set_option maxRecDepth 100000
set_option maxHeartbeats 2000000
/-! The defs: what stands; numbers, rising. -/
namespace DL
open PySem PySem.Spec L2
open PyProof.Rows hiding St

/-- what stands in the module -/
structure Gs (mg : Str → Option Value) : Prop where
  all : mg "all" = none
  any : mg "any" = none
  enum : mg "enumerate" = none
  int : mg "int" = none
  isi : mg "isinstance" = none
  bool : mg "bool" = none
  len : mg "len" = none
  list : mg "list" = none
  max : mg "max" = none
  min : mg "min" = none
  range : mg "range" = none
  set : mg "set" = none
  sorted : mg "sorted" = none
  str : mg "str" = none
  sum : mg "sum" = none
  tuple : mg "tuple" = none
  zip : mg "zip" = none
  period : ∃ t, mg "MOST_PERIOD" = some (.int 12 t)
  wheels : ∃ t, mg "MOST_WHEELS" = some (.int 12 t)
  editions : ∃ t, mg "MOST_EDITIONS" = some (.int 4 t)
  exchanges : ∃ t, mg "MOST_EXCHANGES" = some (.int 24 t)
  tick : ∃ t, mg "MOST_TICK" = some (.int (10 ^ 30) t)
  before : ∃ t, mg "MOST_BEFORE" = some (.int 60 t)
/-- the class at C may be raised, and caught by its name -/
structure BsOk (K : PySem.W.Frag) (mg : Str → Option Value) (C : Addr) : Prop where
  g : mg "BadStanding" = some (.ref C)
  ex : PySem.W.excIn K C [.type "ValueError", .type "Exception", .type "BaseException", .type "object"] "ValueError.__new__" = true
  kp : PySem.W.keepIn K (.ref C) = true
  sb : PySem.W.subIn K (.ref C) (.type "BaseException") = some true
  ty : PySem.W.typeIn K (.ref C) = some (.type "type")
  me : PySem.W.exmOne K (.ref C) (.ref C) = some true
structure Wd (T : Addr → Prop) (K : PySem.W.Frag) (mg : Str → Option Value) (base : Heap) : Prop where
  g : Gs mg
  dv : ∀ (i : Nat) (d : He.DefD), LHead.fn[i]? = some d → Dv K mg d
  tb : ∀ (i : Nat) (p : He.Defn), LHead.tf[i]? = some p → T (He.cT K p).2 ∧ GxR.TabB base mg (He.cT K p).1 (He.cT K p).2
  z1 : SqT K H0 (He.dflAt ("least_ticks", none) 1 K) []
  z2 : SqT K H0 (He.dflAt ("rest_ticks", none) 0 K) []
  z3 : SqT K H0 (He.dflAt ("rest_of", none) 0 K) []
  bs : BsOk K mg (He.ga K "BadStanding")
theorem k_ii : kitB "int" "int" = some true := by decide +kernel
theorem k_ib : kitB "int" "bool" = some false := by decide +kernel
theorem k_tt : kitB "tuple" "tuple" = some true := by decide +kernel
theorem k_nt : kitB "NoneType" "tuple" = some false := by decide +kernel
section
variable {T : Addr → Prop} {P : Program} {w : World} {K : PySem.W.Frag} {mg : Str → Option Value} {base : Heap}
open LHead
def spNum : SpP := fun as S => ∃ v lo hi : Int, as = [.dat (.int v), .dat (.int lo), .dat (.int hi)] ∧ S (.bool (decide (lo ≤ v) && decide (v ≤ hi)))
theorem scNum : FnScope ["value", "low", "high"] ["value", "low", "high"] (defScope st_is_number) := ⟨rfl, rfl, rfl, by decide +kernel, rfl, by decide +kernel, by decide +kernel⟩
theorem fn_number (W : Wd T K mg base) : Fn T P w K mg base 1 "is_number" spNum [] := by
  obtain ⟨fd, hm, F⟩ := (W.dv 0 _ rfl).ex
  refine Fn.make F hm scNum ?_ (fun _ _ _ _ _ _ us hl => match us, hl with | [_, _, _], _ => rfl) ?_
  · rintro as S ⟨v, lo, hi, rfl, _⟩
    exact ⟨rfl, by simp [Ent.isOwn]⟩
  · rintro cdv A outer s H E hr as S ⟨v, lo, hi, rfl, hS⟩
    exact ex_ret ((ev_and (ev_isi (d := .int v) (z := true) W.g.isi W.g.int boot_int' (ev_nm 0) k_ii) fun _ => ev_and (ev_not (ev_isi (d := .int v) (z := false) W.g.isi W.g.bool boot_bool' (ev_nm 0) k_ib)) fun _ => ev_one (ev_chainI op_le op_le (ev_nm 1) (ev_nm 0) (fun _ => ev_nm 2))).imp fun d e => by
      rw [← e]
      simpa using hS)
/-- the same, whatever frames stand -/
theorem lc_number (W : Wd T K mg base) {U Dp : Nat} (hD : Dp < recursionLimit) (v lo hi : Int) : Lc P w K mg U Dp (He.fAd K ("is_number", none)) [.int v, .int lo, .int hi] (.bool (decide (lo ≤ v) && decide (v ≤ hi))) := by
  obtain ⟨fd, hm, F⟩ := (W.dv 0 _ rfl).ex
  refine lc_fn (ps := ["value", "low", "high"]) F (fun _ _ _ _ _ _ us hl => match us, hl with | [_, _, _], _ => rfl) rfl (by decide +kernel) (by decide +kernel) rfl rfl rfl hD fun env m h hs L hv => ?_
  obtain ⟨u1, m1, r1⟩ := hv 0 _ _ rfl rfl
  obtain ⟨u2, m2, r2⟩ := hv 1 _ _ rfl rfl
  obtain ⟨u3, m3, r3⟩ := hv 2 _ _ rfl rfl
  have kd : ∀ x, env.kindOf x = (defScope st_is_number).names.lookup x := fun x => by
    show env.scope.names.lookup x = _
    rw [hs]
    rfl
  have e : (decide (lo ≤ v) && decide (v ≤ hi)) = (true && (!false && (decide (lo ≤ v) && decide (v ≤ hi)))) := by simp
  rw [e]
  refine lb_ret (le_and (le_isi (d := .int v) L W.g.isi W.g.int boot_int' (le_nm L m1 r1 (kd _)) (fun _ z => by cases z) k_ii (kd _) (kd _)) fun _ => le_and (le_not (le_isi (d := .int v) L W.g.isi W.g.bool boot_bool' (le_nm L m1 r1 (kd _)) (fun _ z => by cases z) k_ib (kd _) (kd _))) fun _ => le_one (le_chain (le_nm L m2 r2 (kd _)) (le_nm L m1 r1 (kd _)) (le_nm L m3 r3 (kd _))))
/-- is_number at an element -/
theorem le_number {env : Env} {h : Heap} {m : Str → Option Value} {U Dp : Nat} {a b c : Expr} {pos p1 : Pos} {v lo hi : Int} (W : Wd T K mg base) (hD : Dp < recursionLimit) (L : Lf K mg env m h) (ha : Le P w U Dp env h a (.int v)) (hb : Le P w U Dp env h b (.int lo)) (hc : Le P w U Dp env h c (.int hi)) (hg : env.kindOf "is_number" = some .globalImplicit)
    (e1 : starEach [a, b, c] env = (false, eval a env) :: starEach [b, c] env := by rfl) (e2 : starEach [b, c] env = (false, eval b env) :: starEach [c] env := by rfl) (e3 : starEach [c] env = (false, eval c env) :: starEach [] env := by rfl) (hpl : (backTo pos (starEach [b, c] env)).any (·.1) = false := by rfl) :
    Le P w U Dp env h (.Call (.Name "is_number" p1) [a, b, c] [] pos) (.bool (decide (lo ≤ v) && decide (v ≤ hi))) := by
  obtain ⟨fd, hm, F⟩ := (W.dv 0 _ rfl).ex
  exact le_call (lc_number W hD v lo hi) L hm F.kp ((la_cons ha (la_cons hb (la_cons hc la_nil e3) e2) e1).imp fun vs h' q => args3 q) hg (by decide) e1 hpl
end
end DL
end
section
set_option Elab.async false
set_option linter.all false
set_option autoImplicit false
set_option maxRecDepth 100000
set_option maxHeartbeats 2000000
/-! Clocks, plainly. -/
namespace MA

/-- period, editions, touches (phase, one, other), gaps, book (wheel, edition, other, least) -/
structure Clk where
  p : Int
  eds : List Int
  tch : List (Int × Int × Int)
  gps : List (List Int)
  bk : List (Int × Int × Int × Int)
/-- at an Int place -/
def gI (l : List Int) (w : Int) : Int := l.getD w.toNat 0
def gL (l : List (List Int)) (w : Int) : List Int := l.getD w.toNat []
def lex2 (a b : Int × Int) : Prop := a.1 < b.1 ∨ (a.1 = b.1 ∧ a.2 < b.2)
def lex3 (a b : Int × Int × Int) : Prop := a.1 < b.1 ∨ (a.1 = b.1 ∧ lex2 a.2 b.2)
def key3 (b : Int × Int × Int × Int) : Int × Int × Int := (b.1, b.2.1, b.2.2.1)
structure EdsOk (l : List Int) : Prop where
  one : 1 ≤ l.length
  few : l.length ≤ 12
  num : ∀ e ∈ l, 0 ≤ e ∧ e ≤ 4
  sum : l.sum ≤ 24
structure TchOk (p : Int) (n : Nat) (l : List (Int × Int × Int)) : Prop where
  num : ∀ t ∈ l, 0 ≤ t.1 ∧ t.1 ≤ p - 1 ∧ 0 ≤ t.2.1 ∧ t.2.1 ≤ (n : Int) - 1 ∧ t.2.1 + 1 ≤ t.2.2 ∧ t.2.2 ≤ (n : Int) - 1
  up : l.Pairwise lex3
structure GpsOk (p : Int) (eds : List Int) (l : List (List Int)) : Prop where
  len : l.length = eds.length
  num : ∀ g ∈ l, ∀ x ∈ g, 0 ≤ x ∧ x ≤ p - 1
  up : ∀ g ∈ l, g.Pairwise (· < ·)
  some_ : ∀ i : Nat, ∀ e, eds[i]? = some e → 0 < e → ∀ g, l[i]? = some g → g ≠ []
structure BkOk (eds : List Int) (l : List (Int × Int × Int × Int)) : Prop where
  num : ∀ b ∈ l, 0 ≤ b.1 ∧ b.1 ≤ (eds.length : Int) - 1 ∧ 1 ≤ b.2.1 ∧ b.2.1 ≤ gI eds b.1 ∧ 0 ≤ b.2.2.1 ∧ b.2.2.1 ≤ (eds.length : Int) - 1 ∧ b.1 ≠ b.2.2.1 ∧ 1 ≤ b.2.2.2 ∧ b.2.2.2 ≤ gI eds b.2.2.1
  up : (l.map key3).Pairwise lex3
structure Clk.Ok (c : Clk) : Prop where
  p1 : 1 ≤ c.p
  p2 : c.p ≤ 12
  eds : EdsOk c.eds
  tch : TchOk c.p c.eds.length c.tch
  gps : GpsOk c.p c.eds c.gps
  bk : BkOk c.eds c.bk
end MA
namespace MA
def maxI : List Int → Int
  | [] => 0
  | x :: xs => xs.foldl max x
def rngI (a b : Int) : List Int := (List.range (b - a).toNat).map fun (i : Nat) => a + (i : Int)
theorem mem_rngI {a b x : Int} : x ∈ rngI a b ↔ a ≤ x ∧ x < b := by
  unfold rngI
  rw [List.mem_map]
  constructor
  · rintro ⟨i, hi, rfl⟩
    have := List.mem_range.mp hi
    omega
  · intro ⟨h1, h2⟩
    exact ⟨(x - a).toNat, List.mem_range.mpr (by omega), by omega⟩
def everyEx (eds : List Int) : List (Int × Int) := eds.zipIdx.flatMap fun q => (rngI 1 (q.1 + 1)).map fun e => ((q.2 : Int), e)
def leastN (c : Clk) (w e o : Int) : Int := maxI (0 :: ((c.bk.filter fun b => decide (b.1 = w) && decide (b.2.2.1 = o)).filter fun b => decide (b.2.1 ≤ e)).map (·.2.2.2))
def phases (c : Clk) (a b : Int) : List Int := (c.tch.filter fun t => decide (t.2 = (min a b, max a b))).map (·.1)
theorem gI_at {l : List Int} {i : Nat} {x : Int} (h : l[i]? = some x) : gI l (i : Int) = x := by
  unfold gI
  rw [Int.toNat_natCast, List.getD_eq_getElem?_getD, h]
  rfl
theorem mem_everyEx {eds : List Int} {x : Int × Int} : x ∈ everyEx eds ↔ 0 ≤ x.1 ∧ x.1 < eds.length ∧ 1 ≤ x.2 ∧ x.2 ≤ gI eds x.1 := by
  obtain ⟨w, e⟩ := x
  unfold everyEx
  rw [List.mem_flatMap]
  constructor
  · rintro ⟨⟨l, i⟩, hq, hm⟩
    obtain ⟨e', he, h⟩ := List.mem_map.mp hm
    cases h
    have hz := List.mem_zipIdx_iff_getElem?.mp hq
    have hz' : eds[i]? = some l := hz
    obtain ⟨hi, _⟩ := List.getElem?_eq_some_iff.mp hz'
    obtain ⟨h1, h2⟩ := mem_rngI.mp he
    have h3 := gI_at hz'
    refine ⟨by simp, by simp; omega, h1, ?_⟩
    show e ≤ gI eds (i : Int)
    rw [h3]
    have h2' : e < l + 1 := h2
    omega
  · rintro ⟨h0, h1, h2, h3⟩
    have h0' : 0 ≤ w := h0
    have h1' : w < eds.length := h1
    have hi : w.toNat < eds.length := by omega
    have hg : gI eds w = eds[w.toNat] := by
      unfold gI
      rw [List.getD_eq_getElem?_getD, List.getElem?_eq_getElem hi]
      rfl
    refine ⟨(eds[w.toNat], w.toNat), List.mem_zipIdx_iff_getElem?.mpr (List.getElem?_eq_getElem hi), List.mem_map.mpr ⟨e, mem_rngI.mpr ⟨h2, ?_⟩, ?_⟩⟩
    · have h3' : e ≤ gI eds w := h3
      rw [hg] at h3'
      show e < eds[w.toNat] + 1
      omega
    · show (((w.toNat : Nat) : Int), e) = (w, e)
      rw [Int.toNat_of_nonneg h0']
def planX (eds : List Int) (x : Int × Int → Int) : List (List Int) := eds.zipIdx.map fun q => (List.range q.1.toNat).map fun (i : Nat) => x ((q.2 : Int), (i : Int) + 1)
end MA
end
section
set_option Elab.async false
set_option linter.all false
set_option autoImplicit false
set_option maxRecDepth 100000
set_option maxHeartbeats 2000000
/-! The defs: rising, editions, touches, gaps. -/
namespace DL
open PySem PySem.Spec L2
open PyProof.Rows hiding St
open MA

def dI (l : List Int) : D := .tuple (l.map .int)
def dT3 (t : Int × Int × Int) : D := .tuple [.int t.1, .int t.2.1, .int t.2.2]
def dT4 (b : Int × Int × Int × Int) : D := .tuple [.int b.1, .int b.2.1, .int b.2.2.1, .int b.2.2.2]
def dC (c : Clk) : D := .tuple [.int c.p, dI c.eds, .tuple (c.tch.map dT3), .tuple (c.gps.map dI), .tuple (c.bk.map dT4)]
theorem dI_plain (l : List Int) : plain (dI l) = true := shp_plain (n := 1) (by rw [dI, shp]; exact shps_mapI l)
theorem dT3_plain (t : Int × Int × Int) : plain (dT3 t) = true := rfl
theorem dT4_plain (t : Int × Int × Int × Int) : plain (dT4 t) = true := rfl
theorem plain_map {α : Type} {f : α → D} (h : ∀ x, plain (f x) = true) {l : List α} : ∀ d ∈ l.map f, plain d = true := fun d hd => by
  obtain ⟨x, _, rfl⟩ := List.mem_map.mp hd
  exact h x
/-- a < b of ints, of tuples of ints -/
inductive LtD : D → D → Prop
  | int {a b : Int} : a < b → LtD (.int a) (.int b)
  | tup {a b : List Int} : HT.lexLt a b = true → LtD (dI a) (dI b)
section
variable {T : Addr → Prop} {X : Cx} {es : List Ent} {c : Expr} {rest u : List Stmt} {pos : Pos} {Po' : Po}
theorem ex_no (z : Bool) (hc : Tv T X es c (Eq z)) (hz : z = false) (h : Ex T X es rest Po') : Ex T X es (.If c u [] pos :: rest) Po' := ex_ifF0 (by rw [← hz]; exact hc) h
theorem aa_true {n : Nat} : aa true n (fun _ => true) = true := by
  unfold aa
  simp
end
section
variable {P : Program} {w : World} {U Dp : Nat} {env : Env} {h : Heap} {a b : Expr} {pos : Pos}
theorem kd_of {env : Env} {sc : Scope} {x : Str} {k : Option NameKind} (hs : env.scope = sc) (h : sc.names.lookup x = k) : env.kindOf x = k := by
  rw [← h, ← hs]
  rfl
theorem units_of {k : Nat} {A : Around} (hr : Room k A) : A.units + 8 < cLine := by
  have := hr.un
  omega
theorem depth_of {k : Nat} {A : Around} (hr : Room k A) : A.depth + 1 < recursionLimit := by
  have := hr.dp
  omega
theorem rd_ints {h : Heap} {v : Value} {ns : List Int} (r : RdX h v (dI ns)) : ∃ (c : Addr) (its : Array Value), v = .ref c ∧ IsTup h c its ∧ IntsAre its.toList ns := by
  obtain ⟨as, q⟩ := r
  unfold dI at q
  cases q with
  | @tuple c o vs n xs as h1 h2 h3 h4 =>
    refine ⟨c, vs, rfl, ⟨o, h1, h2, n, h3⟩, ?_⟩
    have key : ∀ {us : List Value} {ns : List Int} {as : List Addr}, ReadsAll h us (ns.map .int) as → IntsAre us ns := by
      intro us ns as r
      induction ns generalizing us as with
      | nil =>
        have r' : ReadsAll h us [] as := r
        cases r'
        exact .nil
      | cons i ns ih =>
        have r' : ReadsAll h us (.int i :: ns.map .int) as := r
        cases r' with
        | cons r1 r2 =>
          cases r1
          exact .cons _ _ (ih r2)
    exact key h4
theorem le_ltT {ns ms : List Int} (hU : U < cLine) (ha : Le P w U Dp env h a (dI ns)) (hb : Le P w U Dp env h b (dI ms)) (hm : behindInMarks .Lt b = false := by exact nobehind _ (by decide) (by decide)) : Le P w U Dp env h (.Compare a [.Lt] [b] pos) (.bool (HT.lexLt ns ms)) := fun A E s hh hd hu k =>
  wpAny_Compare1 (wpAny_mono (ha A E s hh hd hu k) (fun v s1 ⟨r1, q1⟩ => wpAny_mono (hb A E s1 hh hd hu (k.trans (keeps_kp q1))) (fun u s2 ⟨r2, q2⟩ => by
    obtain ⟨c1, its1, rfl, t1, i1⟩ := rd_ints (r1.kp (keeps_kp q2))
    obtain ⟨c2, its2, rfl, t2, i2⟩ := rd_ints r2
    exact HT.lt_tupInts t1 t2 i1 i2 (Nat.lt_of_le_of_lt hu hU) ⟨⟨_, .bool _⟩, keeps_trans q1 q2⟩) fun _ _ x => x) fun _ _ x => x) hm
end
section
variable {T : Addr → Prop} {P : Program} {w : World} {K : PySem.W.Frag} {mg : Str → Option Value} {base : Heap}
open LHead
def spRise : SpP := fun as S => ∃ ds : List D, as = [.dat (.tuple ds)] ∧ (∀ d ∈ ds, plain d = true) ∧ (∀ (i : Nat) a b, ds[i]? = some a → ds[i + 1]? = some b → LtD a b) ∧ S (.bool true)
theorem scRise : FnScope ["value"] ["value"] (defScope st_are_rising) := ⟨rfl, rfl, rfl, by decide +kernel, rfl, by decide +kernel, by decide +kernel⟩
theorem fn_rising (W : Wd T K mg base) : Fn T P w K mg base 2 "are_rising" spRise [] := by
  obtain ⟨fd, hm, F⟩ := (W.dv 1 _ rfl).ex
  obtain ⟨hT, hB⟩ := W.tb 0 _ rfl
  refine Fn.makeC (d := d_are_rising) F hm scRise ?_ (fun _ _ _ _ _ _ us hl => match us, hl with | [_], _ => rfl) ?_
  · rintro as S ⟨ds, rfl, _⟩
    exact ⟨rfl, by simp [Ent.isOwn]⟩
  · rintro A outer s H E hr as S ⟨ds, rfl, hp, hup, hS⟩
    refine ex_ret (Ev.imp (ev_genZ (tr := fun _ => true) true false false hr rfl W.g.all W.g.zip hT hB rfl (genS_of rfl rfl (by decide +kernel) rfl rfl (by decide +kernel)) rfl (by decide) (ev_nm 0) (ev_from (n := 1) (ev_nm 0)) hp (fun d hd => hp d (List.mem_of_mem_drop hd)) ?_ rfl) fun d e => ?_)
    · intro i da db env m h va vb ea eb hs L cap hma hmb ra rb
      rw [List.getElem?_drop, Nat.add_comm] at eb
      rcases hup i da db ea eb with q | q
      · have e := decide_eq_true q
        rw [← e]
        exact le_lt (le_nm L hma ra (kd_of hs rfl)) (le_nm L hmb rb (kd_of hs rfl))
      · rw [← q]
        exact le_ltT (units_of hr) (le_nm L hma ra (kd_of hs rfl)) (le_nm L hmb rb (kd_of hs rfl))
    · rw [← e, aa_true]
      exact hS
theorem ev_num {X : Cx} {es : List Ent} {a b c : Expr} {pos p1 : Pos} {k : Nat} {v lo hi : Int} (F : Fn T X.prog X.w X.K X.mg X.base k "is_number" spNum []) (hr : Room k X.A) (ha : Ev T X es a (Eq (.int v))) (hb : Ev T X es b (Eq (.int lo))) (hc : Ev T X es c (Eq (.int hi))) (hg : Gl X "is_number" := by rfl)
    (e1 : starEach [a, b, c] X.env = (false, eval a X.env) :: starEach [b, c] X.env := by rfl) (e2 : starEach [b, c] X.env = (false, eval b X.env) :: starEach [c] X.env := by rfl) (e3 : starEach [c] X.env = (false, eval c X.env) :: starEach [] X.env := by rfl) (hpl : (backTo pos (starEach [b, c] X.env)).any (·.1) = false := by rfl) :
    Ev T X es (.Call (.Name "is_number" p1) [a, b, c] [] pos) (Eq (.bool (decide (lo ≤ v) && decide (v ≤ hi)))) :=
  ev_callD F hr (ar_cons ha (ar_cons hb (ar_cons hc ar_nil e3) e2) e1) ⟨v, lo, hi, rfl, rfl⟩ hg (by decide) e1 hpl
def spEds : SpP := fun as S => ∃ l : List Int, as = [.dat (dI l)] ∧ EdsOk l ∧ S (.bool true)
theorem fn_editions (W : Wd T K mg base) : Fn T P w K mg base 2 "are_editions" spEds [] := by
  obtain ⟨fd, hm, F⟩ := (W.dv 2 _ rfl).ex
  obtain ⟨hT, hB⟩ := W.tb 1 _ rfl
  obtain ⟨tw, hw⟩ := W.g.wheels
  obtain ⟨te, he⟩ := W.g.editions
  obtain ⟨tx, hx⟩ := W.g.exchanges
  refine Fn.makeC (d := d_are_editions) (N := ["value"]) (ps := ["value"]) F hm ⟨rfl, rfl, rfl, by decide +kernel, rfl, by decide +kernel, by decide +kernel⟩ ?_ (fun _ _ _ _ _ _ us hl => match us, hl with | [_], _ => rfl) ?_
  · rintro as S ⟨ds, rfl, _⟩
    exact ⟨rfl, by simp [Ent.isOwn]⟩
  · rintro A outer s H E hr as S ⟨l, rfl, ok, hS⟩
    have h1 := ok.one
    have h2 := ok.few
    refine ex_no _ (Wv.tv (wv_or (tv_notb (tv_b (ev_isi (d := dI l) (z := true) W.g.isi W.g.tuple boot_tuple (ev_nm 0) k_tt))) fun _ => wv_or1 (tv_notb (tv_chainI op_le op_le ev_int (ev_lenT (ds := l.map .int) W.g.len (ev_nm 0).r) (fun _ => ev_globI hw))))) (by simp; omega) ?_
    refine ex_ret (Ev.imp (ev_and (ev_gen1 (ds := l.map .int) (tr := fun _ => true) true false hr rfl W.g.all hT hB rfl (genS_of rfl rfl (by decide +kernel) rfl rfl (by decide +kernel)) (ev_nm 0) (plain_map fun _ => rfl) ?_ rfl) fun _ => ev_one (ev_le (ev_sumT rfl W.g.sum (ev_nm 0).r) (ev_globI hx))) fun d e => ?_)
    · intro i d env m h v hd hs L cap hmv rv
      obtain ⟨e, hm', rfl⟩ := List.mem_map.mp (List.mem_of_getElem? hd)
      obtain ⟨q1, q2⟩ := ok.num e hm'
      have ee : (decide ((0 : Int) ≤ e) && decide (e ≤ 4)) = true := by simp [q1, q2]
      rw [← ee]
      exact le_number W (depth_of hr) L (le_nm L hmv rv (kd_of hs rfl)) le_int (le_globI L he (kd_of hs rfl)) (kd_of hs rfl)
    · rw [← e, aa_true, decide_eq_true ok.sum]
      exact hS
def spTch : SpP := fun as S => ∃ (l : List (Int × Int × Int)) (p : Int) (n : Nat), as = [.dat (.tuple (l.map dT3)), .dat (.int p), .dat (.int (n : Int))] ∧ TchOk p n l ∧ S (.bool true)
theorem lex3_lt {a b : Int × Int × Int} (h : lex3 a b) : HT.lexLt [a.1, a.2.1, a.2.2] [b.1, b.2.1, b.2.2] = true := by
  rw [HT.lexLt_cons, HT.lexLt_cons, HT.lexLt_cons]
  rcases h with h | ⟨h0, h | ⟨h2, h3⟩⟩
  · rw [if_neg (by omega)]
    exact decide_eq_true h
  · rw [if_pos h0, if_neg (by omega)]
    exact decide_eq_true h
  · rw [if_pos h0, if_pos h2, if_neg (by omega)]
    exact decide_eq_true h3
theorem up_at {α : Type} {R : α → α → Prop} {f : α → D} {l : List α} (h : l.Pairwise R) (hR : ∀ a b, R a b → LtD (f a) (f b)) (i : Nat) (a b : D) (ha : (l.map f)[i]? = some a) (hb : (l.map f)[i + 1]? = some b) : LtD a b := by
  rw [List.getElem?_map] at ha hb
  obtain ⟨x, hx, rfl⟩ := Option.map_eq_some_iff.mp ha
  obtain ⟨y, hy, rfl⟩ := Option.map_eq_some_iff.mp hb
  obtain ⟨h1, e1⟩ := List.getElem?_eq_some_iff.mp hx
  obtain ⟨h2, e2⟩ := List.getElem?_eq_some_iff.mp hy
  have := List.pairwise_iff_getElem.mp h i (i + 1) h1 h2 (Nat.lt_succ_self i)
  rw [e1, e2] at this
  exact hR _ _ this
theorem fn_touches (W : Wd T K mg base) : Fn T P w K mg base 3 "are_touches" spTch [] := by
  have hN : (["value", "period", "wheels", "touch"] : List Str).Nodup := by decide +kernel
  obtain ⟨fd, hm, F⟩ := (W.dv 3 _ rfl).ex
  refine Fn.make (N := ["value", "period", "wheels", "touch"]) (ps := ["value", "period", "wheels"]) F hm ⟨rfl, rfl, rfl, by decide +kernel, rfl, by decide +kernel, by decide +kernel⟩ ?_ (fun _ _ _ _ _ _ us hl => match us, hl with | [_, _, _], _ => rfl) ?_
  · rintro as S ⟨l, p, n, rfl, _⟩
    exact ⟨rfl, by simp [Ent.isOwn]⟩
  · rintro cdv A outer s H E hr as S ⟨l, p, n, rfl, ok, hS⟩
    refine ex_no _ (tv_notb (tv_b (ev_isi (d := .tuple (l.map dT3)) (z := true) W.g.isi W.g.tuple boot_tuple (ev_nm 0) k_tt))) rfl ?_
    refine ex_forD [3] (enc := dT3) (L := l) (fun _ e => ∃ x, e = [.dat (.tuple (l.map dT3)), .dat (.int p), .dat (.int (n : Int)), x]) .never rfl (wk_tup (ev_nm 0)) ⟨_, rfl⟩ ?_ ?_
    · rintro i t es' ht ⟨x, rfl⟩
      obtain ⟨q1, q2, q3, q4, q5, q6⟩ := ok.num t (List.mem_of_getElem? ht)
      refine ⟨_, bd_nm 3 hN, ?_⟩
      refine ex_no _ (Wv.tv (wv_or (tv_notb (tv_b (ev_isi (d := dT3 t) (z := true) W.g.isi W.g.tuple boot_tuple (ev_nm 3) k_tt))) fun _ => wv_or (Cv.tvb (cv_ne (ev_lenT (ds := [.int t.1, .int t.2.1, .int t.2.2]) W.g.len (ev_nm 3).r) ev_int) rfl) fun _ => wv_or1 (tv_notb (tv_b (ev_num (fn_number W) (hr.mono (by decide)) (ev_ixT (ev_nm 3).r ev_int rfl) ev_int (ev_sub (ev_nm 1) ev_int)))))) (by simp; omega) ?_
      refine ex_no _ (Wv.tv (wv_or (tv_notb (tv_b (ev_num (fn_number W) (hr.mono (by decide)) (ev_ixT (ev_nm 3).r ev_int rfl) ev_int (ev_sub (ev_nm 2) ev_int)))) fun _ => wv_or1 (tv_notb (tv_b (ev_num (fn_number W) (hr.mono (by decide)) (ev_ixT (ev_nm 3).r ev_int rfl) (ev_add (ev_ixT (ev_nm 3).r ev_int rfl) ev_int) (ev_sub (ev_nm 2) ev_int)))))) (by simp; omega) ?_
      exact ex_nil ⟨_, rfl⟩
    · rintro es' ⟨x, rfl⟩
      exact ex_ret (ev_callD (fn_rising W) hr (ar_cons (ev_nm 0) ar_nil) ⟨_, rfl, plain_map dT3_plain, up_at ok.up fun a b h => .tup (lex3_lt h), hS⟩)
end
end DL
end
section
set_option Elab.async false
set_option linter.all false
set_option autoImplicit false
set_option maxRecDepth 100000
set_option maxHeartbeats 2000000
/-! any, all over a dict's items, a dict captured. -/
namespace DL
open PySem PySem.Spec L2
open PyProof.Rows hiding St
/-- the dict at d, whatever stands -/
def RdK (P : Program) (w : World) (h : Heap) (d : Addr) (kvs : KD) : Prop := ∃ xs, h.DictOfH (tupleKind (mixKind P w)) d xs ∧ ∀ k, RelO ((lkD kvs k).map V.int) ((atKey xs (k.map Sum.inl)).map (·.2))
theorem RdK.kx {P : Program} {w : World} {h h' : Heap} {d : Addr} {kvs : KD} {T : Addr} {op : Obj} (r : RdK P w h d kvs) (hp : h.get? T = some op) (hc : op.cls = .none) (k : Kx T h h') : RdK P w h' d kvs := by
  obtain ⟨xs, ⟨o, es, ep, e1, e2, e3, e4, e5, e6⟩, q⟩ := r
  have c2 := e2.1
  refine ⟨xs, ⟨o, es, ep, k d o (fun z => ?_) e1, e2, e3, e4, fun x hx => ?_, e6⟩, q⟩
  · rw [z, hp] at e1
    cases e1
    rw [hc] at c2
    cases c2
  · obtain ⟨o', its, n, a1, a2, a3, a4⟩ := e5 x hx
    refine ⟨o', its, n, k _ o' (fun z => ?_) a1, a2, a3, a4⟩
    rw [z, hp] at a1
    cases a1
    rw [hc] at a2
    cases a2
theorem RdK.kp {P : Program} {w : World} {h h' : Heap} {d : Addr} {kvs : KD} (r : RdK P w h d kvs) (k : Kp h h') : RdK P w h' d kvs := by
  obtain ⟨xs, ⟨o, es, ep, e1, e2, e3, e4, e5, e6⟩, q⟩ := r
  refine ⟨xs, ⟨o, es, ep, k d o e1, e2, e3, e4, fun x hx => ?_, e6⟩, q⟩
  obtain ⟨o', its, n, a1, a2, a3, a4⟩ := e5 x hx
  exact ⟨o', its, n, k _ o' a1, a2, a3, a4⟩
theorem rdk_at {X : Cx} {pins : List (Addr × Obj)} {σ : St} {H1 : Hp} {s1 : Shared} {d : Addr} {kvs : KD} (I : Inv X pins σ H1 s1) (h : H1 d = some (.dT (encK kvs))) : RdK X.prog X.w s1.heap d kvs := by
  obtain ⟨_, _, xs, rel, dd⟩ := dt_of I.hok h
  refine ⟨xs, dd, fun k => ?_⟩
  have := rel.val (k.map Sum.inl)
  rw [valV_enc] at this
  exact this
theorem vals_reads {h : Heap} : ∀ {k : List Int} {vs : List Value} {as : List Addr}, ReadsAll h vs (k.map .int) as → Vals (((k.map Sum.inl : List Key)).map kV) vs
  | [], _, _, r => by
    cases r
    exact .nil
  | i :: k, _, _, r => by
    cases r with
    | cons r1 r2 =>
      cases r1
      exact .cons ⟨_, rfl⟩ (vals_reads r2)
theorem rdx_key {P : Program} {w : World} {h : Heap} {v : Value} {k : List Int} (r : RdX h v (.tuple (k.map .int))) : ∃ b, v = .ref b ∧ (tupleKind (mixKind P w)).is h (k.map Sum.inl) b := by
  obtain ⟨as, q⟩ := r
  cases q with
  | @tuple a o vs n xs as h1 h2 h3 h4 => exact ⟨a, rfl, o, vs, n, h1, h2, h3, items_are (vals_reads h4)⟩
section
variable {P : Program} {w : World} {U Dp : Nat} {env : Env} {h : Heap} {K : PySem.W.Frag} {mg m : Str → Option Value} {b : Expr} {pos px : Pos}
theorem le_dget {x : Str} {c d : Addr} {kvs : KD} {k : List Int} {v : Int} (hU : U + 1 < cLine) (F : Lf K mg env m h) (hc : env.cells.lookup x = some c) (hv : h.IsCell c (some (.ref d))) (r : RdK P w h d kvs) (hb : Le P w U Dp env h b (.tuple (k.map .int))) (hk : lkD kvs k = some v)
    (hl : env.kindOf x = some .free := by rfl) (hs : NoSl b := by exact fun _ _ => rfl) (hd : (x == ("__debug__" : Str)) = false := by decide) (hcd : (x == ("__classdict__" : Str)) = false := by decide) : Le P w U Dp env h (.Subscript (.Name x px) b pos) (.int v) := fun A E s hh hdp hu k0 => by
  refine subD_of PySem.F.slot_dict_getitem.lookup hs (wpAny_Name (wpAny_loadName_free F.kind hl hc (let ⟨o, e, q⟩ := hv; ⟨o, k0 c o e, q⟩) ?_ hcd) hd)
  refine wpAny_mono (hb A E s hh hdp hu k0) (fun u s2 ⟨r2, q2⟩ => ?_) fun _ _ x => x
  obtain ⟨a, rfl, hkey⟩ := rdx_key (P := P) (w := w) r2
  obtain ⟨xs, dd, q⟩ := r.kp (k0.trans (keeps_kp q2))
  have dd' := dd
  obtain ⟨o, es, ep, e1, e2, _⟩ := dd'
  refine ⟨⟨o, e1, e2.1⟩, ?_⟩
  have qk := q k
  rw [hk] at qk
  obtain ⟨w', hw, rw'⟩ := RelO.some_of (v := V.int v) (o := (atKey xs (k.map Sum.inl)).map fun x : Addr × Value => x.2) qk
  obtain ⟨p, hp, hp2⟩ := Option.map_eq_some_iff.mp hw
  refine wpAny_getItem_heap (tupleKind_room_in1 (by omega)) hkey dd hp ?_
  rw [hp2]
  obtain ⟨t, et⟩ := rw'
  rw [et]
  exact ⟨⟨_, .int _ t⟩, keeps_trans q2 (GxR.keeps_tok s2 _)⟩
end
section
variable {T : Addr → Prop} {X : Cx} {es : List Ent} {elt iter e2 : Expr} {scope : Scope} {k : Nat} {c P : Addr} {gpos pos p1 apos cpos : Pos}
/-- a captured dict of one's own -/
def CapD (X : Cx) (es : List Ent) (scope : Scope) (env : Env) (h : Heap) : Prop := ∀ (j : Nat) (y : Str) (kvs : KD), es[j]? = some (.dic kvs) → X.N[j]? = some y → (y, NameKind.free) ∈ scope.names → X.env.scope.names.lookup y = some .cell → ∃ c d, env.cells.lookup y = some c ∧ h.IsCell c (some (.ref d)) ∧ RdK X.prog X.w h d kvs
theorem gp_capD {pins : List (Addr × Obj)} {σ : St} {H1 : Hp} {s0 : Shared} {P : Addr} {p : Pr} {scope : Scope} {cenv : Env} {m : Str → Option Value} {s2 : Shared} {A' : Around} (I : Inv X pins σ H1 s0) (t : GxR.TabG H1 P) (ok : EnvOk X.K p H1 σ es) (hf : ∀ y ∈ scope.names, y.2 = .free → ∃ c, X.env.cells.lookup y.1 = some c) (G : Gp X P scope s0.heap cenv m s2 A') : CapD X es scope cenv s2.heap := fun j y kvs he hN hy hc => by
  obtain ⟨d, e1, _, r1⟩ := ok.dic he
  obtain ⟨m0, hn, hl⟩ := I.loc
  obtain ⟨u, ru, l⟩ := hl j y _ hN e1 (.inr (.inl hc))
  obtain rfl : u = Value.ref d := ru
  rcases l with ⟨hk, _⟩ | ⟨_, c, hcl, hcell⟩
  · have hk' : X.env.scope.names.lookup y = some .local := hk
    rw [hc] at hk'
    cases hk'
  · obtain ⟨oc, ec, dc⟩ := hcell
    obtain ⟨op, ep, hcn, hcp, _⟩ := tab_at I t
    refine ⟨c, d, ?_, ⟨oc, G.keep c oc (fun z => ?_) ec, dc⟩, RdK.kx (rdk_at I r1) ep hcn G.keep⟩
    · rw [G.cells]
      exact NdefX.clo_has hf hy hcl
    · rw [z, ep] at ec
      cases ec
      exact hcp _ dc
theorem src_items {pins : List (Addr × Obj)} {σ : St} {H : Hp} {s : Shared} {p : Pr} {kvs : KD} (hP : T P) (ha : EvR T X es e2 (Eq (dicD kvs))) (I : Inv X pins σ H s) (g : Good T p H) (o : EnvOk X.K p H σ es)
    (hbase : attributeBase e2 "items" X.env (eval e2 X.env) = eval e2 X.env := by rfl) (hline : (apos.endLine == cpos.line) = true := by rfl) :
    wpAny (model X.prog X.w) X.A (eval (.Call (.Attribute e2 "items" apos) [] [] cpos) X.env) (fun xv s1 => wpAny (model X.prog X.w) X.A (pyIter xv) (Src2 X pins σ P (fun h i va vb => ∃ q, kvs[i]? = some q ∧ RdX h va (.tuple (q.1.map .int)) ∧ RdX h vb (.int q.2)) (fun H1 s0 N => Gr0 p H H1 ∧ N = kvs.length)) X.xe s1) X.xe s := by
  refine wpAny_Call_method (T := "dict") (id := "dict.items") hbase rfl hline F.plainAttrs_dict F.slot_dict_items F.type_dict_items (thn (ha p H σ (fun v H1 => Gr0 p H H1 ∧ ∃ d, v = .ref d ∧ H1 d = some (.dT (encK kvs))) g o (fun H1 v d g1 r1 q1 => by subst q1; exact ⟨g1, r1.dic⟩) pins s I) fun u s1 ⟨x, H1, I1, rx, g1, d, ex, hd⟩ => ?_)
  subst ex
  obtain rfl : u = Value.ref d := rx
  obtain ⟨hs, xs, es', ep, pr, hm, hsz, hx⟩ := raw_at I1 hd
  have tg := (g.go g1).tabs P hP
  obtain ⟨op, eP, cP, _⟩ := tab_at I1 tg
  have ltP : P < s1.heap.objs.size := Heap.lt_size eP
  have hm' := hm
  obtain ⟨od, hod, hex, hdat⟩ := hm'
  have hd2 := hex.1
  have dP : d ≠ P := fun z => by
    rw [z, eP] at hod
    cases hod
    rw [cP] at hd2
    cases hd2
  have ltd : d < s1.heap.objs.size := Heap.lt_size hod
  refine ⟨⟨od, hod, hex.1⟩, fun b e => by cases e; exact ⟨od, hod, hex.2.1⟩, ?_⟩
  refine method_meetsIn F.slot_dict_items F.entry_dict_items rfl (PySem.evalArgs_none ⟨rfl, ⟨od, hod, hex.1⟩, F.args_dict_items_1 _, _, meets_dict_items_raw d hs, ⟨⟨es', ep, hm⟩, ?_⟩⟩)
  have kp1 : Kp s1.heap (s1.heap.push { cls := .type "dict_items", data := .fields #[.ref d] }) := fun b o e => Heap.get?_push_of_some _ e
  have hm1 : (s1.heap.push { cls := .type "dict_items", data := .fields #[.ref d] }).DictRaw d es' ep := ⟨od, kp1 _ _ hod, hex, hdat⟩
  refine wpAny_pyIter_items_raw (d := d) ⟨_, Heap.get?_push_size _ rfl, rfl, rfl⟩ hm1 ?_
  have hz1 : (s1.heap.push { cls := .type "dict_items", data := .fields #[.ref d] }).objs.size = s1.heap.objs.size + 1 := Heap.size_push _ _
  refine ⟨H1, s1, (s1.heap.push { cls := .type "dict_items", data := .fields #[.ref d] }).push { cls := .type "dict_itemiterator", data := .fields #[.none, .bool false, .ref d, .int 0 0, .int es'.size 0, .int ep 0, .none, .none] }, s1.toks, s1.heap.objs.size + 1, [s1.heap.objs.size + 1], es'.size, by rw [hz1], rfl, I1, fun b o e => Heap.get?_push_of_some _ (kp1 b o e), fun b hb => ?_, by rw [Heap.size_push, hz1]; omega, tg, ⟨g1, hsz⟩, fun h4 k4 hz => ?_⟩
  · rw [List.mem_singleton.mp hb, Heap.size_push, hz1]
    exact ⟨Nat.le_succ _, Nat.lt_succ_self _⟩
  · rw [Heap.size_push, hz1] at hz
    have hW := fun (A' : Around) (hA : A'.handled = none) => (WalksT.rawItems (prog := X.prog) (w := X.w) hA (s1.heap.objs.size + 1) d (Nat.ne_of_lt (Nat.lt_succ_of_lt ltd)) es' ep).toU
    have eit : ((s1.heap.push { cls := .type "dict_items", data := .fields #[.ref d] }).push { cls := .type "dict_itemiterator", data := .fields #[.none, .bool false, .ref d, .int 0 0, .int es'.size 0, .int ep 0, .none, .none] }).get? (s1.heap.push { cls := .type "dict_items", data := .fields #[.ref d] }).objs.size = some { cls := .type "dict_itemiterator", data := .fields #[.none, .bool false, .ref d, .int 0 0, .int es'.size 0, .int ep 0, .none, .none] } := Heap.get?_push_size _ rfl
    rw [hz1] at eit
    refine ⟨[s1.heap.objs.size + 1, d], _, _, _, hW, ⟨⟨_, _, k4 _ _ (Nat.ne_of_gt (Nat.lt_succ_of_lt ltP)) eit⟩, ⟨od, k4 _ _ dP (Heap.get?_push_of_some _ (kp1 _ _ hod)), hex, hdat⟩⟩, fun b hb => ?_, fun i vals hv => ?_⟩
    · have e' : b = s1.heap.objs.size + 1 ∨ b = d := by simpa using hb
      rcases e' with z | z
      · rw [z]
        exact Nat.lt_of_lt_of_le (Nat.lt_succ_self _) hz
      · rw [z]
        exact Nat.lt_of_lt_of_le (Nat.lt_succ_of_lt (Nat.lt_succ_of_lt ltd)) hz
    · obtain ⟨hi, ev⟩ := hv
      obtain ⟨y, e1, e2, e3⟩ := hx i (by omega)
      obtain ⟨q, e4, r⟩ := DX.pget pr e1
      unfold encK at e4
      rw [List.getElem?_map] at e4
      obtain ⟨q0, e5, e6⟩ := Option.map_eq_some_iff.mp e4
      subst e6
      refine ⟨_, _, ev, q0, e5, ?_, ?_⟩
      · rw [e2]
        have gg := g.go g1
        have rp : Rp X.K p.own H1 (.ref y.2.1) (.tuple (q0.1.map .int)) := .tup (.inl ⟨fun z => gg.nt _ _ z r.2.1, r.2.1⟩) (by
          rw [List.map_map]
          exact Rps.of_ints _)
        have pl : plain (PyData.tuple (q0.1.map .int)) = true := by
          exact dI_plain q0.1
        exact Dp.reads I1 _ _ _ (rp.dp pl) rfl
      · rw [e3]
        obtain ⟨t, et⟩ := r.2.2
        rw [et]
        exact ⟨_, .int _ t⟩
theorem ev_genI {xa xb : Str} {pa pb pt : Pos} {kt : Nat} {kvs : KD} {tr : Nat → Bool} (isAll : Bool) (hr : Room k X.A) (hc : X.calm = true) (hm : X.mg (aaN isAll) = none) (hP : T P) (TB : GxR.TabB X.base X.mg c P) (hcode : X.env.code = .ref c) (S : GxR.GenS X.env scope xa) (hxb : scope.names.lookup xb = some .local) (hab : xa ≠ xb)
    (ha : EvR T X es e2 (Eq (dicD kvs)))
    (hel : ∀ (i : Nat) (q : List Int × Int) (env : Env) (m : Str → Option Value) (h : Heap) (va vb : Value), kvs[i]? = some q → env.scope = scope → Lf X.K X.mg env m h → CapD X es scope env h → m xa = some va → m xb = some vb → RdX h va (.tuple (q.1.map .int)) → RdX h vb (.int q.2) → Le X.prog X.w (X.A.units + 8) (X.A.depth + 1) env h elt (.bool (tr i)))
    (hg : Gl X (aaN isAll)) (hs : ∀ v, genFold (.Call (.Attribute e2 "items" apos) [] [] cpos) X.env v = pure v := by intro _; rfl)
    (he : starEach [.GeneratorExp elt [⟨.Tuple [.Name xa pa, .Name xb pb] kt pt, .Call (.Attribute e2 "items" apos) [] [] cpos, [], 0⟩] scope gpos] X.env = (false, eval (.GeneratorExp elt [⟨.Tuple [.Name xa pa, .Name xb pb] kt pt, .Call (.Attribute e2 "items" apos) [] [] cpos, [], 0⟩] scope gpos) X.env) :: starEach [] X.env := by rfl)
    (hbase : attributeBase e2 "items" X.env (eval e2 X.env) = eval e2 X.env := by rfl) (hline : (apos.endLine == cpos.line) = true := by rfl) :
    Ev T X es (.Call (.Name (aaN isAll) p1) [.GeneratorExp elt [⟨.Tuple [.Name xa pa, .Name xb pb] kt pt, .Call (.Attribute e2 "items" apos) [] [] cpos, [], 0⟩] scope gpos] [] pos) (Eq (.bool (aa isAll kvs.length tr))) := fun p H σ Q g o kk pins s I => by
  refine wpAny_Call_Name_kw (ld_blt I hg hm (u := .builtin (if isAll = true then "all" else "any")) (by cases isAll <;> decide +kernel) ?_ (by cases isAll <;> decide) (by cases isAll <;> decide))
  refine PyProof.Rows.callWith_builtin1 ?_ he (by rfl)
  rw [he]
  show wpAny _ _ (spliced ((false, eval (.GeneratorExp elt [⟨.Tuple [.Name xa pa, .Name xb pb] kt pt, .Call (.Attribute e2 "items" apos) [] [] cpos, [], 0⟩] scope gpos) X.env) :: backTo pos (starEach [] X.env))) _ _ s
  refine Calls.spliced_cons (gen2 hr TB hcode S hxb hab hs (src_items hP ha I g o hbase hline) fun H1 s0 N ⟨g1, eN⟩ I1 => ⟨tr, fun i va vb cenv m A' E' s2 G hV hma hmb => ?_, fun gg s5 hR => Calls.spliced_nil (call_aa isAll hR fun H2 ht => ?_)⟩)
  · obtain ⟨q, eq, ra, rb⟩ := hV
    have tg := (g.go g1).tabs P hP
    refine wpAny_mono (hel i q cenv m s2.heap va vb eq G.scp (gp_lf I1 tg G S.kind) (gp_capD I1 tg (o.go g g1) S.free G) hma hmb (RdX.kx I1 tg ra G.keep) (RdX.kx I1 tg rb G.keep) A' E' s2 G.hh G.hd G.hu (fun _ _ e => e)) (fun y s3 ⟨⟨as, r⟩, q⟩ => ?_) fun _ _ z => z
    cases r
    exact ⟨rfl, q⟩
  · subst eN
    exact kk H2 _ _ (g1.trans (tabbed_gr (g.go g1) hP ht)) (.bl _) rfl
end
end DL
end
section
set_option Elab.async false
set_option linter.all false
set_option autoImplicit false
set_option maxRecDepth 100000
set_option maxHeartbeats 2000000
/-! The draws' row: read and written. -/
namespace DL
open PySem PySem.Spec L2
open PyProof.Rows hiding St
/-- what the row holds at place k -/
def RowR (k n : Int) : Prop := (k = 1 → 0 ≤ n) ∧ (k = 2 → 0 ≤ n ∧ n < 2147483647)
section
variable {T : Addr → Prop} {X : Cx} {es : List Ent} {e : Expr} {pos px p1 tpos : Pos} {rest : List Stmt} {P : Po}
theorem row_at {i j k : Int} {s : Addr} {m : Int} (h1 : 1 ≤ m) (h3 : m ≤ 3) (hi : 0 ≤ i) (hj : 0 ≤ j) (hj2 : j < 2147483647) : ∃ n, atI [V.ref s, .int i, .int j, .int k] m = some (.int n) ∧ RowR m n := by
  have : m = 1 ∨ m = 2 ∨ m = 3 := by omega
  rcases this with rfl | rfl | rfl
  · exact ⟨i, rfl, fun _ => hi, fun z => by omega⟩
  · exact ⟨j, rfl, fun z => by omega, fun _ => ⟨hj, hj2⟩⟩
  · exact ⟨k, rfl, fun z => by omega, fun z => by omega⟩
theorem row_set {i j k : Int} {s : Addr} {m n : Int} (h1 : 1 ≤ m) (h3 : m ≤ 3) (hi : 0 ≤ i) (hj : 0 ≤ j) (hj2 : j < 2147483647) (hn : RowR m n) : ∃ q, ixN [V.ref s, .int i, .int j, .int k].length m = some q ∧ RowV s (.lst ([V.ref s, .int i, .int j, .int k].set q (.int n))) := by
  have : m = 1 ∨ m = 2 ∨ m = 3 := by omega
  rcases this with rfl | rfl | rfl
  · exact ⟨1, rfl, n, j, k, rfl, hn.1 rfl, hj, hj2⟩
  · exact ⟨2, rfl, i, n, k, rfl, hi, hn.2 rfl⟩
  · exact ⟨3, rfl, i, j, n, rfl, hi, hj, hj2⟩
theorem gr_row {p : Pr} {H : Hp} {r s : Addr} {x y : HO} (l : p.row r) (q : H r = some x) (hx : RowV s x) (hy : RowV s y) : Gr0 p H (L2.upd H r y) := fun b z e _ => by
  by_cases h : b = r
  · subst h
    rw [q] at e
    cases e
    exact ⟨y, upd_same, .inr (.inr ⟨l, s, hx, hy⟩)⟩
  · exact ⟨z, by rw [upd_ne h]; exact e, .refl⟩
theorem ev_row (i : Nat) {m : Int} {j : Nat} {x : Str} {ns : List Int} (h1 : 1 ≤ m := by decide) (h3 : m ≤ 3 := by decide) (he : es[i]? = some (.row ns) := by rfl) (hN : X.N[i]? = some x := by rfl) (hv : Vis X.env.scope x := by first | exact Or.inl rfl | exact Or.inr (Or.inl rfl) | exact Or.inr (Or.inr rfl)) (hd : (x == ("__debug__" : Str)) = false := by decide) (hcd : (x == ("__classdict__" : Str)) = false := by decide) :
    Ev T X es (.Subscript (.Name x px) (.Constant (.int m) j p1) pos) (fun d => ∃ n, d = .int n ∧ RowR m n) := fun p H σ Q g o k => by
  obtain ⟨r, y, s, e1, l, q, rv, rp, hl⟩ := o.at_ i _ he
  obtain ⟨a, b, c, rfl, ha, hb, hb2⟩ := rv
  obtain ⟨n, e2, hn⟩ := row_at (k := c) (s := s) h1 h3 ha hb hb2
  exact wE_of (pe_ix ix_list (pv i hN hv hd hcd) pe_int (fun _ _ => rfl)) ⟨_, getD_some e1, r, _, m, _, rfl, rfl, .inl (.inl q), e2, k H _ _ (.refl H) (.int n) ⟨n, rfl, hn⟩⟩
theorem ex_row (i : Nat) {m : Int} {j : Nat} {x : Str} {ns : List Int} (ha : Ev T X es e fun d => ∃ n, d = .int n ∧ RowR m n) (hr : Ex T X es rest P) (h1 : 1 ≤ m := by decide) (h3 : m ≤ 3 := by decide) (he : es[i]? = some (.row ns) := by rfl) (hN : X.N[i]? = some x := by rfl) (hv : Vis X.env.scope x := by first | exact Or.inl rfl | exact Or.inr (Or.inl rfl) | exact Or.inr (Or.inr rfl))
    (hs : swapsWithSole [.Subscript (.Name x px) (.Constant (.int m) j p1) tpos] e pos.line X.env = pure false := by rfl) (hw : swappedStores [.Subscript (.Name x px) (.Constant (.int m) j p1) tpos] e X.env = pure none := by rfl) (hd : (x == ("__debug__" : Str)) = false := by decide) (hcd : (x == ("__classdict__" : Str)) = false := by decide) :
    Ex T X es (.Assign [.Subscript (.Name x px) (.Constant (.int m) j p1) tpos] e pos :: rest) P :=
  ex_cons fun p H σ D g o fi => wS1_of (ps_asg pe_w (pg_sub (pv i hN hv hd hcd) pe_int set_list) hs hw) (ha p H σ _ g o fun H1 v d g1 rv qv => by
    obtain ⟨n, rfl, hn⟩ := qv
    have ev := rv.int_v
    subst ev
    have o1 := o.go g g1
    obtain ⟨r, y, s, e1, l, q, rw_, rp, hl⟩ := o1.at_ i _ he
    obtain ⟨a, b, c, rfl, ha, hb, hb2⟩ := rw_
    obtain ⟨k, e2, e3⟩ := row_set (k := c) (s := s) h1 h3 ha hb hb2 hn
    have gr := gr_row l q ⟨a, b, c, rfl, ha, hb, hb2⟩ e3
    exact ⟨_, getD_some e1, r, _, m, k, rfl, rfl, q, e2, fi.nx _ p _ _ ((Step.of_gr g g1).trans (.of_gr (g.go g1) gr)) hr (o1.go (g.go g1) gr)⟩)
end
end DL
end
section
set_option Elab.async false
set_option linter.all false
set_option autoImplicit false
set_option maxRecDepth 100000
set_option maxHeartbeats 2000000
/-! The defs: gaps, books, clocks asked; ticks. -/
namespace DL
open PySem PySem.Spec L2
open PyProof.Rows hiding St
open MA

theorem zipD2_map {α β : Type} {f : α → D} {g : β → D} {l : List α} {m : List β} : zipD2 (l.map f) (m.map g) = (l.zip m).map fun q => .tuple [f q.1, g q.2] := by
  unfold zipD2
  rw [List.zip_map, List.map_map]
  rfl
section
variable {T : Addr → Prop} {P : Program} {w : World} {K : PySem.W.Frag} {mg : Str → Option Value} {base : Heap}
open LHead
def spGps : SpP := fun as S => ∃ (l : List (List Int)) (p : Int) (eds : List Int), as = [.dat (.tuple (l.map dI)), .dat (.int p), .dat (dI eds)] ∧ GpsOk p eds l ∧ S (.bool true)
theorem fn_gaps (W : Wd T K mg base) : Fn T P w K mg base 3 "are_gaps" spGps [] := by
  have hN : (["value", "period", "editions", "phases", "last"] : List Str).Nodup := by decide +kernel
  obtain ⟨fd, hm, F⟩ := (W.dv 4 _ rfl).ex
  obtain ⟨hT, hB⟩ := W.tb 2 _ rfl
  refine Fn.makeC (d := d_are_gaps) (N := ["value", "period", "editions", "phases", "last"]) (ps := ["value", "period", "editions"]) F hm ⟨rfl, rfl, rfl, by decide +kernel, rfl, by decide +kernel, by decide +kernel⟩ ?_ (fun _ _ _ _ _ _ us hl => match us, hl with | [_, _, _], _ => rfl) ?_
  · rintro as S ⟨l, p, n, rfl, _⟩
    exact ⟨rfl, by simp [Ent.isOwn]⟩
  · rintro A outer s H E hr as S ⟨l, p, eds, rfl, ok, hS⟩
    have hlen := ok.len
    refine ex_no _ (Wv.tv (wv_or (tv_notb (tv_b (ev_isi (d := .tuple (l.map dI)) (z := true) W.g.isi W.g.tuple boot_tuple (ev_nm 0) k_tt))) fun _ => wv_or1 (Cv.tvb (cv_ne (ev_lenT (ds := l.map dI) W.g.len (ev_nm 0).r) (ev_lenT (ds := eds.map .int) W.g.len (ev_nm 2).r)) rfl))) (by simp; omega) ?_
    refine ex_forD [3, 4] (enc := fun q : List Int × Int => .tuple [dI q.1, .int q.2]) (L := l.zip eds) (fun _ e => ∃ x y, e = [.dat (.tuple (l.map dI)), .dat (.int p), .dat (dI eds), x, y]) .never rfl (by rw [← zipD2_map]; exact wk_zip2 false false W.g.zip (ev_nm 0) (ev_nm 2)) ⟨_, _, rfl⟩ ?_ ?_
    · rintro i ⟨ph, la⟩ es' ht ⟨x, y, rfl⟩
      obtain ⟨e1, e2⟩ := List.getElem?_zip_eq_some.mp ht
      have hnum := ok.num ph (List.mem_of_getElem? e1)
      have hup := ok.up ph (List.mem_of_getElem? e1)
      refine ⟨_, bd_tup rfl (Bds.cons rfl (bd_nm 3 hN) (Bds.cons rfl (bd_nm 4 hN) .nil)), ?_⟩
      refine ex_no _ (Wv.tv (wv_or (tv_notb (tv_b (ev_isi (d := dI ph) (z := true) W.g.isi W.g.tuple boot_tuple (ev_nm 3) k_tt))) fun _ => wv_or1 (tv_notb (tv_b (ev_gen1 (ds := ph.map .int) (tr := fun _ => true) true false hr rfl W.g.all hT hB rfl (genS_of rfl rfl (by decide +kernel) rfl rfl (by decide +kernel)) (ev_nm 3) (plain_map fun _ => rfl) ?_ rfl))))) (by rw [aa_true]; rfl) ?_
      · intro i d env m h v hd hs L cap hmv rv
        obtain ⟨e, hm', rfl⟩ := List.mem_map.mp (List.mem_of_getElem? hd)
        obtain ⟨q1, q2⟩ := hnum e hm'
        obtain ⟨c, u, hc, hcell, hu⟩ := cap 1 _ _ rfl rfl (by decide +kernel) rfl rfl
        have ee : (decide ((0 : Int) ≤ e) && decide (e ≤ p - 1)) = true := by simp [q1, q2]
        rw [← ee]
        exact le_number W (depth_of hr) L (le_nm L hmv rv (kd_of hs rfl)) le_int (le_sub (le_fr L hc hcell hu (kd_of hs rfl)) le_int) (kd_of hs rfl)
      · refine ex_no _ (Wv.tv (wv_or (tv_notb (tv_b (ev_callD (fn_rising W) hr (ar_cons (ev_nm 3) ar_nil) ⟨_, rfl, plain_map (fun _ => rfl), up_at hup fun a b h => .int h, rfl⟩))) fun _ => wv_or1 (Wv.tv (wv_and (Cv.tvb (cv_gt (ev_nm 4) ev_int) rfl) fun _ => wv_and1 (tv_notb (tv_tup (ds := ph.map .int) (ev_nm 3).r)))))) ?_ ?_
        · have hs := ok.some_ i la e2
          by_cases h0 : 0 < la
          · have := hs h0 ph e1
            cases ph with
            | nil => exact absurd rfl this
            | cons => simp
          · simp [h0]
        · exact ex_nil ⟨_, _, rfl⟩
    · rintro es' ⟨x, y, rfl⟩
      exact ex_ret (Ev.imp ev_bl fun d e => by rw [← e]; exact hS)
theorem atI_at {α : Type} {xs : List α} {i : Int} {d : α} (h0 : 0 ≤ i) (h1 : i < xs.length) : atI xs i = some (xs.getD i.toNat d) := by
  have h2 : i.toNat < xs.length := by omega
  unfold atI ixN
  rw [if_pos h0, if_pos h1]
  simp [List.getD_eq_getElem?_getD, List.getElem?_eq_getElem h2]
theorem atI_g {eds : List Int} {i : Int} (h0 : 0 ≤ i) (h1 : i < eds.length) : atI (eds.map PyData.int) i = some (.int (gI eds i)) := by
  rw [atI_at (d := .int 0) h0 (by rw [List.length_map]; exact h1)]
  congr 1
  unfold gI
  simp only [List.getD_eq_getElem?_getD, List.getElem?_map]
  cases eds[i.toNat]? <;> rfl
theorem lt_ne {U Dp : Nat} {env : Env} {h : Heap} {a b : Expr} {pos : Pos} {i j : Int} (ha : Le P w U Dp env h a (.int i)) (hb : Le P w U Dp env h b (.int j)) (hm : behindInMarks .NotEq b = false := by exact nobehind _ (by decide) (by decide)) : Lt P w U Dp env h (.Compare a [.NotEq] [b] pos) (i != j) := fun A E s hh hd hu k =>
  wpAny_isTrue_Compare1 (wpAny_mono (ha A E s hh hd hu k) (fun v s1 ⟨r1, q1⟩ => wpAny_mono (hb A E s1 hh hd hu (k.trans (keeps_kp q1))) (fun u s2 ⟨r2, q2⟩ => by
    obtain ⟨t, rfl⟩ := r1.int_v
    obtain ⟨t', rfl⟩ := r2.int_v
    exact PyProof.Rows.ne_int (wpAny_truthy_bool ⟨rfl, keeps_trans q1 q2⟩)) fun _ _ x => x) fun _ _ x => x) hm
theorem lc_entry (W : Wd T K mg base) {U Dp : Nat} (hD : Dp + 1 < recursionLimit) {eds : List Int} {l : List (Int × Int × Int × Int)} (ok : BkOk eds l) (h12 : eds.length ≤ 12) {b : Int × Int × Int × Int} (hb : b ∈ l) : Lc P w K mg U Dp (He.fAd K ("is_entry", none)) [dT4 b, dI eds] (.bool true) := by
  obtain ⟨fd, hm, F⟩ := (W.dv 5 _ rfl).ex
  obtain ⟨q1, q2, q3, q4, q5, q6, q7, q8, q9⟩ := ok.num b hb
  have lm : (eds.map PyData.int).length = eds.length := List.length_map _
  have hl : (eds.map PyData.int).length ≤ 1000 := by rw [lm]; omega
  refine lc_fn (ps := ["value", "editions"]) F (fun _ _ _ _ _ _ us hl => match us, hl with | [_, _], _ => rfl) rfl (by decide +kernel) (by decide +kernel) rfl rfl rfl (by omega) fun env m h hs L hv => ?_
  obtain ⟨u1, m1, r1⟩ := hv 0 _ _ rfl rfl
  obtain ⟨u2, m2, r2⟩ := hv 1 _ _ rfl rfl
  have vN : ∀ {pos : Pos}, Le P w (U + 3) (Dp + 1) env h (.Name "value" pos) (dT4 b) := le_nm L m1 r1 (kd_of hs rfl)
  have eN : ∀ {pos : Pos}, Le P w (U + 3) (Dp + 1) env h (.Name "editions" pos) (dI eds) := le_nm L m2 r2 (kd_of hs rfl)
  have v0 : ∀ {p1 p2 p3 : Pos} {j : Nat}, Le P w (U + 3) (Dp + 1) env h (.Subscript (.Name "value" p1) (.Constant (.int 0) j p2) p3) (.int b.1) := le_ix vN le_int rfl (Nat.le_of_ble_eq_true rfl)
  have v1 : ∀ {p1 p2 p3 : Pos} {j : Nat}, Le P w (U + 3) (Dp + 1) env h (.Subscript (.Name "value" p1) (.Constant (.int 1) j p2) p3) (.int b.2.1) := le_ix vN le_int rfl (Nat.le_of_ble_eq_true rfl)
  have v2 : ∀ {p1 p2 p3 : Pos} {j : Nat}, Le P w (U + 3) (Dp + 1) env h (.Subscript (.Name "value" p1) (.Constant (.int 2) j p2) p3) (.int b.2.2.1) := le_ix vN le_int rfl (Nat.le_of_ble_eq_true rfl)
  have v3 : ∀ {p1 p2 p3 : Pos} {j : Nat}, Le P w (U + 3) (Dp + 1) env h (.Subscript (.Name "value" p1) (.Constant (.int 3) j p2) p3) (.int b.2.2.2) := le_ix vN le_int rfl (Nat.le_of_ble_eq_true rfl)
  refine lb_if (z := false) ?_ (fun z => by cases z) fun _ => ?_
  · have e : (!true || ((((4 : Nat) : Int) != 4) || !(decide (0 ≤ b.1) && decide (b.1 ≤ ((eds.map PyData.int).length : Int) - 1)))) = false := by rw [lm]; simp [q1]; omega
    rw [← e]
    exact lt_w (lw_or (lt_not (lt_of (le_isi (d := dT4 b) L W.g.isi W.g.tuple boot_tuple vN (fun _ z => by cases z) k_tt (kd_of hs rfl) (kd_of hs rfl)))) fun _ => lw_or (lt_ne (le_lenT (ds := [.int b.1, .int b.2.1, .int b.2.2.1, .int b.2.2.2]) L W.g.len vN (Nat.le_of_ble_eq_true rfl) (kd_of hs rfl)) le_int) fun _ => lw_or1 (lt_not (lt_of (le_number W hD L v0 le_int (le_sub (le_lenT (ds := eds.map .int) L W.g.len eN hl (kd_of hs rfl)) le_int) (kd_of hs rfl)))))
  refine lb_if (z := false) ?_ (fun z => by cases z) fun _ => ?_
  · have e : (!(decide (1 ≤ b.2.1) && decide (b.2.1 ≤ gI eds b.1)) || !(decide (0 ≤ b.2.2.1) && decide (b.2.2.1 ≤ ((eds.map PyData.int).length : Int) - 1))) = false := by rw [lm]; simp [q3, q4, q5]; omega
    rw [← e]
    exact lt_w (lw_or (lt_not (lt_of (le_number W hD L v1 le_int (le_ix eN v0 (atI_g q1 (by omega)) hl) (kd_of hs rfl)))) fun _ => lw_or1 (lt_not (lt_of (le_number W hD L v2 le_int (le_sub (le_lenT (ds := eds.map .int) L W.g.len eN hl (kd_of hs rfl)) le_int) (kd_of hs rfl)))))
  · have e : ((b.1 != b.2.2.1) && (decide (1 ≤ b.2.2.2) && decide (b.2.2.2 ≤ gI eds b.2.2.1))) = true := by simp [q7, q8, q9]
    rw [← e]
    exact lb_ret (le_and (le_ne v0 v2) fun _ => le_one (le_number W hD L v3 le_int (le_ix eN v2 (atI_g q5 (by omega)) hl) (kd_of hs rfl)))
end
end DL
end
section
set_option Elab.async false
set_option linter.all false
set_option autoImplicit false
set_option maxRecDepth 100000
set_option maxHeartbeats 2000000
/-! The draws' row: the draw. -/
namespace DL
open PySem PySem.Spec L2
open PyProof.Rows hiding St
section
variable {T : Addr → Prop} {X : Cx} {es : List Ent} {body rest : List Stmt} {P : Po}
theorem ex_draw (i c : Nat) {x xc : Str} {ns : List Int} {a1 a2 a3 a4 a5 a6 a7 a8 a9 b1 b2 b3 b4 b5 b6 b7 b8 b9 c1 c2 c3 c4 c5 c6 c7 c8 c9 c0 : Pos} {k1 k2 k3 k4 k5 k6 k7 k8 : Nat}
    (hb : Ex T X es body { P with nx := fun _ => False }) (hr : ∀ v : Int, Ex T X (es.set c (.dat (.int v))) rest P) (hN : X.N.Nodup) (hm : X.mg "len" = none)
    (he : es[i]? = some (.row ns) := by rfl) (hNi : X.N[i]? = some x := by rfl) (hNc : X.N[c]? = some xc := by rfl) (hv : Vis X.env.scope x := by first | exact Or.inl rfl | exact Or.inr (Or.inl rfl) | exact Or.inr (Or.inr rfl))
    (hx : Loc X.env.scope xc := by first | exact Or.inl rfl | exact Or.inr rfl) (hf : X.fn xc = true ∨ X.env.scope.names.lookup xc = some .local := by first | exact .inl rfl | exact .inr rfl) (hg : Gl X "len" := by rfl)
    (hs1 : swapsWithSole [.Subscript (.Name x a1) (.Constant (.int 1) k1 a2) a3] (.BinOp (.Subscript (.Name x a4) (.Constant (.int 1) k2 a5) a6) .Add (.Constant (.int 1) k3 a7) a8) a9.line X.env = pure false := by rfl)
    (hw1 : swappedStores [.Subscript (.Name x a1) (.Constant (.int 1) k1 a2) a3] (.BinOp (.Subscript (.Name x a4) (.Constant (.int 1) k2 a5) a6) .Add (.Constant (.int 1) k3 a7) a8) X.env = pure none := by rfl)
    (hse : starEach [.Subscript (.Name x b4) (.Constant (.int 0) k5 b5) b6] X.env = (false, eval (.Subscript (.Name x b4) (.Constant (.int 0) k5 b5) b6) X.env) :: starEach [] X.env := by rfl) (hpl : (backTo b8 (starEach [] X.env)).any (·.1) = false := by rfl)
    (hd : (x == ("__debug__" : Str)) = false := by decide) (hcd : (x == ("__classdict__" : Str)) = false := by decide) (hdl : (("len" : Str) == ("__debug__" : Str)) = false := by decide) {s2p s3p : Pos}
    (hs3' : swapsWith (.Subscript (.Subscript (.Name x c1) (.Constant (.int 0) k6 c2) c3) (.BinOp (.Subscript (.Name x c4) (.Constant (.int 1) k7 c5) c6) .Sub (.Constant (.int 1) k8 c7) c8) c9) (some (.Name xc c0)) s3p.line X.env = pure false := by rfl) :
    Ex T X es (.Assign [.Subscript (.Name x a1) (.Constant (.int 1) k1 a2) a3] (.BinOp (.Subscript (.Name x a4) (.Constant (.int 1) k2 a5) a6) .Add (.Constant (.int 1) k3 a7) a8) a9 ::
      .If (.Compare (.Subscript (.Name x b1) (.Constant (.int 1) k4 b2) b3) [.Gt] [.Call (.Name "len" b7) [.Subscript (.Name x b4) (.Constant (.int 0) k5 b5) b6] [] b8] b9) body [] s2p ::
      .Assign [.Name xc c0] (.Subscript (.Subscript (.Name x c1) (.Constant (.int 0) k6 c2) c3) (.BinOp (.Subscript (.Name x c4) (.Constant (.int 1) k7 c5) c6) .Sub (.Constant (.int 1) k8 c7) c8) c9) s3p :: rest) P := fun p H σ D g o fi => by
  obtain ⟨r, y, s, e1, l, q, rw_, rp, hl⟩ := o.at_ i _ he
  obtain ⟨a, b, k, rfl, ha, hb0, hb2⟩ := rw_
  have pv1 := fun (p : Pos) => pv (X := X) (pos := p) i hNi hv hd hcd
  have sv : ∃ v, σ[i]? = some (some v) ∧ v = .ref r := ⟨_, getD_some e1, rfl⟩
  obtain ⟨_, sv, rfl⟩ := sv
  refine wS_of (pss_cons (ps_asg (pe_op op_add (pe_ix ix_list (pv1 _) pe_int (fun _ _ => rfl)) pe_int) (pg_sub (pv1 _) pe_int set_list) hs1 hw1) pss_w) ?_
  refine ⟨_, sv, r, _, 1, .int a, rfl, rfl, .inl (.inl q), rfl, a, 1, rfl, rfl, _, sv, r, _, 1, 1, rfl, rfl, q, rfl, ?_⟩
  have e3 : RowV s (.lst ([V.ref s, .int a, .int b, .int k].set 1 (.int (a + 1)))) := ⟨a + 1, b, k, rfl, by omega, hb0, hb2⟩
  have gr := gr_row l q ⟨a, b, k, rfl, ha, hb0, hb2⟩ e3
  have q1 : (L2.upd H r (.lst ([V.ref s, .int a, .int b, .int k].set 1 (.int (a + 1))))) r = some (.lst [V.ref s, .int (a + 1), .int b, .int k]) := upd_same
  have o1 := o.go g gr
  have rp1 := rp.mono gr.mono
  have st1 := Step.of_gr g gr
  generalize L2.upd H r (.lst ([V.ref s, .int a, .int b, .int k].set 1 (.int (a + 1)))) = H1 at q1 o1 rp1 gr st1 ⊢
  have G1 := g.go gr
  have f1 := fi.go st1
  refine wS_of (pss_cons (ps_if (pt_cmpR op_gt (pe_ix ix_list (pv1 _) pe_int (fun _ _ => rfl)) (pe_callB call_len_seq hg hm PySem.boot_len (pa_cons (pe_ix ix_list (pv1 _) pe_int (fun _ _ => rfl)) pa_nil hse) (by decide) (by decide) hse hpl) (nobehind _ (by decide) (by decide))) pss_w pss_nil) pss_w) ?_
  refine ⟨_, sv, r, _, 1, .int (a + 1), rfl, rfl, .inl (.inl q1), rfl, _, sv, r, _, 0, .ref s, rfl, rfl, .inl (.inl q1), rfl, s, ns.map V.int, rfl, .inl rp1.sq, a + 1, ((ns.map V.int).length : Int), rfl, rfl, _, rfl, ?_⟩
  rw [List.length_map]
  by_cases hlt : ((ns.length : Int) < a + 1)
  · rw [decide_eq_true hlt]
    exact iteT (hb p H1 σ _ G1 o1 ⟨fun _ _ _ _ _ h _ => h.elim, f1.rt, f1.bk, f1.ct⟩)
  · rw [decide_eq_false hlt]
    refine iteF ?_
    show wS X _ D σ H1
    refine wS_of (pss_cons (ps_set hN hNc hx (pe_ix ix_list (pe_ix ix_list (pv1 _) pe_int (fun _ _ => rfl)) (pe_op op_sub (pe_ix ix_list (pv1 _) pe_int (fun _ _ => rfl)) pe_int) (fun _ _ => rfl)) hs3' hf) pss_w) ?_
    have hcell : atI (ns.map V.int) (a + 1 - 1) = some (.int (ns.getD (a + 1 - 1).toNat 0)) := by
      rw [atI_at (d := V.int 0) (by omega) (by rw [List.length_map]; omega)]
      congr 1
      simp only [List.getD_eq_getElem?_getD, List.getElem?_map]
      cases ns[(a + 1 - 1).toNat]? <;> rfl
    exact ⟨_, sv, r, _, 0, .ref s, rfl, rfl, .inl (.inl q1), rfl, _, sv, r, _, 1, .int (a + 1), rfl, rfl, .inl (.inl q1), rfl, a + 1, 1, rfl, rfl, s, _, _, _, rfl, rfl, rp1.sq, hcell,
      hr _ p H1 _ D G1 (o1.set (fun z => z) ⟨_, rfl, .int _⟩) f1⟩
end
end DL
end
section
set_option Elab.async false
set_option linter.all false
set_option autoImplicit false
set_option maxRecDepth 100000
set_option maxHeartbeats 2000000
/-! A zip over any iterators, whatever became of the tuple that it gave out. -/
namespace PySem
/-- a zip; f0: its own tuple (none, or the address of the one given out), f: known to be out -/
abbrev ZipAt (h : Heap) (z TI TO : Addr) (f0 : Value) (f : Bool) : Prop :=
  h.get? z = some { cls := .type "zip", dict := none, data := .fields #[f0, .bool f, .bool false, .ref TI, .ref TO], slots := #[] }
def ZipAny (h : Heap) (z TI TO : Addr) : Prop := ∃ f0 f, (f0 = .none ∨ ∃ T : Addr, f0 = rawInt T) ∧ ZipAt h z TI TO f0 f
theorem ZipAny.obj {h : Heap} {z TI TO : Addr} (q : ZipAny h z TI TO) : ∃ o, h.get? z = some o ∧ ∀ v, o.data ≠ .cell v := by
  obtain ⟨f0, f, _, e⟩ := q
  exact ⟨_, e, fun v q => nomatch q⟩
theorem ZipAny.at_ {h h' : Heap} {z TI TO : Addr} (q : ZipAny h z TI TO) (k : ∀ o, h.get? z = some o → h'.get? z = some o) : ZipAny h' z TI TO := by
  obtain ⟨f0, f, q0, e⟩ := q
  exact ⟨f0, f, q0, k _ e⟩
section
variable {prog : Program} {w : World} {A : Around} {E : Value → Shared → Prop} {s : Shared} {z TI TO i1 i2 : Addr} {fp1 fp2 : List Addr} {n1 n2 i : Nat} {P1 P2 : Nat → Value → Prop} {St1 St2 : Nat → Heap → Prop}
theorem zfree {Q : Bool → Shared → Prop} (hz : ZipAny s.heap z TI TO) (h1 : ∀ f0 f, ZipAt s.heap z TI TO f0 f → Q true s) (h2 : ∀ h', ZipAny h' z TI TO → Heap.SameBut z s.heap h' → Q false { s with heap := h' }) :
    wpAny (model prog w) A (Builtin.SmallTypes.ownedTupleIsFree (.ref z)) Q E s := by
  obtain ⟨f0, f, q | ⟨T, q⟩, e⟩ := hz
  · subst q
    unfold Builtin.SmallTypes.ownedTupleIsFree
    exact wpAny_bind (wpAny_field e rfl (x := .none) rfl (wpAny_pure (h1 _ _ e)))
  · subst q
    cases hT : s.heap.get? T with
    | none =>
      unfold Builtin.SmallTypes.ownedTupleIsFree
      refine wpAny_bind (wpAny_field e rfl (x := rawInt T) rfl ?_)
      show wpAny _ _ (loadIfAlive ((T : Int).toNat) >>= _) _ _ _
      rw [Int.toNat_natCast]
      have q : ∀ {Q' : Option Obj → Shared → Prop}, Q' none s → wpAny (model prog w) A (loadIfAlive T) Q' E s := fun {Q'} h => by
        have h' : Q' (s.heap.get? T) s := by rw [hT]; exact h
        exact fun _ _ _ => h'
      refine wpAny_bind (q ?_)
      simp only [Option.isNone_none, if_true]
      exact wpAny_pure (h1 _ _ e)
    | some oT => exact wpAny_tupleHeld_zip e hT fun h' a b => h2 h' ⟨_, _, .inr ⟨T, rfl⟩, a⟩ b
theorem zipA_item {Q : Value → Shared → Prop} (S : ZipSep2 z TI TO i1 i2 fp1 fp2) (D1 : Draws prog w A i1 fp1 n1 P1 St1) (D2 : Draws prog w A i2 fp2 n2 P2 St2)
    (hz : ZipAny s.heap z TI TO) (hTI : IsTupOf2 s.heap TI (.ref i1) (.ref i2)) (hTO : ∃ a1 a2, IsTupOf2 s.heap TO a1 a2) (st1 : St1 i s.heap) (st2 : St2 i s.heap) (hlt1 : i < n1) (hlt2 : i < n2)
    (hQ : ∀ x1 x2 h' tk, P1 i x1 → P2 i x2 → ZipAny h' z TI TO → (∃ a1 a2, IsTupOf2 h' TO a1 a2) → St1 (i + 1) h' → St2 (i + 1) h' → IsTupOf2 h' s.heap.objs.size x1 x2 → h'.objs.size = s.heap.objs.size + 1 →
      (∀ c o, c ≠ z → c ≠ TO → c ≠ i1 → c ≠ i2 → s.heap.get? c = some o → h'.get? c = some o) → Q (.ref s.heap.objs.size) { s with heap := h', toks := tk }) :
    wpAny (model prog w) A (Builtin.«zip.__next__» ⟨[.ref z], []⟩) (fun fin s' => ∃ v, fin = .done (.ret v) ∧ Q v s') E s := by
  obtain ⟨hp, g, d, tk0, os⟩ := s
  obtain ⟨b1, b2, hTO⟩ := hTO
  have hz0 := hz
  obtain ⟨f0, f, q0, hz⟩ := hz
  show wpAny _ _ (field (.ref z) 2 >>= _) _ _ _
  refine wpAny_bind (wpAny_field hz rfl (x := .bool false) rfl ?_)
  show wpAny _ _ (field (.ref z) 3 >>= _) _ _ _
  refine wpAny_bind (wpAny_field hz rfl (x := .ref TI) rfl ?_)
  refine wpAny_bind (wpAny_seqItems hTI rfl ?_)
  show wpAny _ _ (Builtin.SmallTypes.ownedTupleIsFree (.ref z) >>= _) _ _ _
  refine wpAny_bind (zfree hz0 (fun _ _ _ => ?_) fun u1 z1 m1 => ?_)
  · simp only [if_true]
    refine wpAny_bind (wpAny_rule ?_)
    refine wpAny_bind (wpAny_field hz rfl (x := .ref TO) rfl ?_)
    refine wpAny_bind (wpAny_setField_rec hz (by simp) fun u0 z0 m0 => ?_)
    replace z0 : ZipAt u0 z TI TO .ellipsis f := z0
    replace m0 : Heap.SameBut z hp u0 := m0
    refine wpAny_bind ?_
    simp only [List.zipIdx_cons, List.zipIdx_nil, List.forIn_cons, List.forIn_nil]
    refine wpAny_bind (wpAny_bind (wpAny_onRaise ?_))
    show wpAny _ _ (Builtin.SmallTypes.nextOf (.ref i1) >>= _) _ _ ⟨u0, g, d, tk0, os⟩
    refine wpAny_bind (D1.item i _ _ _ hlt1 (D1.over st1 m0 S.zf1) fun x1 u1 tk1 y1 sn1 m1 => wpAny_pure ?_)
    replace m1 : Heap.SameBut i1 u0 u1 := m1
    have t1 : IsTupOf2 u1 TO b1 b2 := m1.extBut _ _ S.Ti1 (m0.extBut _ _ S.TOz hTO)
    refine wpAny_bind (wpAny_seqItems (s := ⟨u1, g, d, tk1, os⟩) t1 rfl ?_)
    refine wpAny_bind (updateSeq_IsTupOf2 (s := ⟨u1, g, d, tk1, os⟩) t1 fun u2 t2 m2 => ?_)
    replace t2 : IsTupOf2 u2 TO x1 b2 := t2
    replace m2 : Heap.SameBut TO u1 u2 := m2
    refine wpAny_bind (wpAny_letGo (wpAny_pure ?_))
    refine wpAny_bind (wpAny_bind (wpAny_onRaise ?_))
    show wpAny _ _ (Builtin.SmallTypes.nextOf (.ref i2) >>= _) _ _ ⟨u2, g, d, tk1, os⟩
    refine wpAny_bind (D2.item i _ _ _ hlt2 (D2.over (D2.over (D2.over st2 m0 S.zf2) m1 S.sep1_2) m2 S.Tf2) fun x2 u3 tk2 y2 sn2 m3 => wpAny_pure ?_)
    replace m3 : Heap.SameBut i2 u2 u3 := m3
    have t3 : IsTupOf2 u3 TO x1 b2 := m3.extBut _ _ S.Ti2 t2
    refine wpAny_bind (wpAny_seqItems (s := ⟨u3, g, d, tk2, os⟩) t3 rfl ?_)
    refine wpAny_bind (updateSeq_IsTupOf2 (s := ⟨u3, g, d, tk2, os⟩) t3 fun u4 t4 m4 => ?_)
    replace t4 : IsTupOf2 u4 TO x1 x2 := t4
    replace m4 : Heap.SameBut TO u3 u4 := m4
    refine wpAny_bind (wpAny_letGo (wpAny_pure (wpAny_pure ?_)))
    refine wpAny_bind (wpAny_seqItems (s := ⟨u4, g, d, tk2, os⟩) t4 rfl ?_)
    refine wpAny_bind (wpAny_newTuple ?_)
    have sz : u4.objs.size = hp.objs.size := by rw [m4.1, m3.1, m2.1, m1.1, m0.1]
    have z4 : ZipAt u4 z TI TO .ellipsis f := m4.extBut _ _ S.TOz.symm (m3.extBut _ _ S.zi2 (m2.extBut _ _ S.TOz.symm (m1.extBut _ _ S.zi1 z0)))
    have kk : ∀ c o, c ≠ z → c ≠ TO → c ≠ i1 → c ≠ i2 → hp.get? c = some o → u4.get? c = some o := fun c o a0 a1 a2 a3 e =>
      m4.extBut _ _ a1 (m3.extBut _ _ a3 (m2.extBut _ _ a1 (m1.extBut _ _ a2 (m0.extBut _ _ a0 e))))
    have j1 : St1 (i + 1) u4 := D1.over (D1.over (D1.over sn1 m2 S.Tf1) m3 S.sep2_1) m4 S.Tf1
    have j2 : St2 (i + 1) u4 := D2.over sn2 m4 S.Tf2
    have zl : z < u4.objs.size := Heap.lt_size z4
    show wpAny _ _ (Builtin.SmallTypes.ownedTupleHandOut (.ref z) (.ref u4.objs.size) >>= _) _ _ ⟨u4.push { cls := .type "tuple", data := .seq #[x1, x2] }, g, d, tk2, os⟩
    refine wpAny_bind ?_
    unfold Builtin.SmallTypes.ownedTupleHandOut
    have z5 : ZipAt (u4.push { cls := .type "tuple", data := .seq #[x1, x2] }) z TI TO .ellipsis f := Heap.get?_push_of_some _ z4
    refine wpAny_bind (wpAny_setField_rec z5 (by simp) fun u7 z7 m7 => ?_)
    replace z7 : ZipAt u7 z TI TO (rawInt u4.objs.size) f := z7
    refine wpAny_setField_rec z7 (by simp) fun u8 z8 m8 => ?_
    replace z8 : ZipAt u8 z TI TO (rawInt u4.objs.size) false := z8
    replace m7 : Heap.SameBut z (u4.push { cls := .type "tuple", data := .seq #[x1, x2] }) u7 := m7
    replace m8 : Heap.SameBut z u7 u8 := m8
    have up : ∀ c o, c ≠ z → u4.get? c = some o → u8.get? c = some o := fun c o a0 e => m8.extBut _ _ a0 (m7.extBut _ _ a0 (Heap.get?_push_of_some _ e))
    have t8 : IsTupOf2 u8 u4.objs.size x1 x2 := m8.extBut _ _ (Nat.ne_of_gt zl) (m7.extBut _ _ (Nat.ne_of_gt zl) (Heap.get?_push_size _ rfl))
    have s8 : u8.objs.size = u4.objs.size + 1 := by rw [m8.1, m7.1, Heap.size_push]
    rw [sz] at t8 s8
    refine wpAny_pure ⟨_, rfl, ?_⟩
    show Q (.ref u4.objs.size) ⟨u8, g, d, tk2, os⟩
    rw [sz]
    exact hQ x1 x2 u8 tk2 y1 y2 ⟨_, _, .inr ⟨_, rfl⟩, z8⟩ ⟨_, _, up _ _ S.TOz t4⟩ (D1.frame _ _ _ j1 fun b hb o e => up b o (fun q => S.zf1 (q ▸ hb)) e) (D2.frame _ _ _ j2 fun b hb o e => up b o (fun q => S.zf2 (q ▸ hb)) e) t8 s8 fun c o a0 a1 a2 a3 e => up c o a0 (kk c o a0 a1 a2 a3 e)
  · replace m1 : Heap.SameBut z hp u1 := m1
    simp only [Bool.false_eq_true, if_false]
    refine wpAny_bind ?_
    rw [← Array.forIn_toList]
    simp only [List.forIn_cons, List.forIn_nil]
    refine wpAny_bind (wpAny_bind (wpAny_holding ?_))
    show wpAny _ _ (Builtin.SmallTypes.nextOf (.ref i1) >>= _) _ _ ⟨u1, g, d, tk0, os⟩
    refine wpAny_bind (D1.item i _ _ _ hlt1 (D1.over st1 m1 S.zf1) fun x1 u2 tk1 y1 sn1 m2 => wpAny_pure ?_)
    replace m2 : Heap.SameBut i1 u1 u2 := m2
    refine wpAny_pure ?_
    refine wpAny_bind (wpAny_bind (wpAny_holding ?_))
    show wpAny _ _ (Builtin.SmallTypes.nextOf (.ref i2) >>= _) _ _ ⟨u2, g, d, tk1, os⟩
    refine wpAny_bind (D2.item i _ _ _ hlt2 (D2.over (D2.over st2 m1 S.zf2) m2 S.sep1_2) fun x2 u3 tk2 y2 sn2 m3 => wpAny_pure ?_)
    replace m3 : Heap.SameBut i2 u2 u3 := m3
    refine wpAny_pure (wpAny_pure ?_)
    show wpAny _ _ (newTuple [x1, x2] >>= _) _ _ _
    refine wpAny_bind (wpAny_newTuple ?_)
    have sz : u3.objs.size = hp.objs.size := by rw [m3.1, m2.1, m1.1]
    have z3 : ZipAny u3 z TI TO := z1.at_ fun o e => m3.extBut _ _ S.zi2 (m2.extBut _ _ S.zi1 e)
    have kk : ∀ c o, c ≠ z → c ≠ i1 → c ≠ i2 → hp.get? c = some o → u3.get? c = some o := fun c o a1 a2 a3 e => m3.extBut _ _ a3 (m2.extBut _ _ a2 (m1.extBut _ _ a1 e))
    have j1 : St1 (i + 1) u3 := D1.over sn1 m3 S.sep2_1
    refine wpAny_pure ⟨_, rfl, ?_⟩
    show Q (.ref u3.objs.size) _
    have p1 : IsTupOf2 (u3.push { cls := .type "tuple", data := .seq #[x1, x2] }) u3.objs.size x1 x2 := Heap.get?_push_size _ rfl
    have p2 : (u3.push { cls := .type "tuple", data := .seq #[x1, x2] }).objs.size = u3.objs.size + 1 := Heap.size_push ..
    rw [sz] at p1 p2 ⊢
    exact hQ x1 x2 _ tk2 y1 y2 (z3.at_ fun o e => Heap.get?_push_of_some _ e) ⟨_, _, Heap.get?_push_of_some _ (kk _ _ S.TOz S.Ti1 S.Ti2 hTO)⟩ (D1.frame _ _ _ j1 fun b _ o e => Heap.get?_push_of_some _ e) (D2.frame _ _ _ sn2 fun b _ o e => Heap.get?_push_of_some _ e) p1 p2 fun c o a1 _ a2 a3 e => Heap.get?_push_of_some _ (kk c o a1 a2 a3 e)
theorem zipA_end {Q : Fin → Shared → Prop} (S : ZipSep2 z TI TO i1 i2 fp1 fp2) (D1 : Draws prog w A i1 fp1 n1 P1 St1) (D2 : Draws prog w A i2 fp2 n2 P2 St2)
    (hz : ZipAny s.heap z TI TO) (hTI : IsTupOf2 s.heap TI (.ref i1) (.ref i2)) (hTO : ∃ a1 a2, IsTupOf2 s.heap TO a1 a2) (st1 : St1 i s.heap) (st2 : St2 i s.heap) (hle1 : i ≤ n1) (hle2 : i ≤ n2) (hend : i = n1 ∨ i = n2)
    (hE : ∀ h' tk e, (∀ c o, c ≠ z → c ≠ TO → c ≠ i1 → c ≠ i2 → s.heap.get? c = some o → h'.get? c = some o) → (∃ o, h'.get? e = some o ∧ o.cls = .type "StopIteration") → E (.ref e) { s with heap := h', toks := tk }) :
    wpAny (model prog w) A (Builtin.«zip.__next__» ⟨[.ref z], []⟩) Q E s := by
  obtain ⟨hp, g, d, tk0, os⟩ := s
  obtain ⟨b1, b2, hTO⟩ := hTO
  have hz0 := hz
  obtain ⟨f0, f, q0, hz⟩ := hz
  show wpAny _ _ (field (.ref z) 2 >>= _) _ _ _
  refine wpAny_bind (wpAny_field hz rfl (x := .bool false) rfl ?_)
  show wpAny _ _ (field (.ref z) 3 >>= _) _ _ _
  refine wpAny_bind (wpAny_field hz rfl (x := .ref TI) rfl ?_)
  refine wpAny_bind (wpAny_seqItems hTI rfl ?_)
  show wpAny _ _ (Builtin.SmallTypes.ownedTupleIsFree (.ref z) >>= _) _ _ _
  refine wpAny_bind (zfree hz0 (fun _ _ _ => ?_) fun u1 z1 m1 => ?_)
  · simp only [if_true]
    refine wpAny_bind (wpAny_rule ?_)
    refine wpAny_bind (wpAny_field hz rfl (x := .ref TO) rfl ?_)
    refine wpAny_bind (wpAny_setField_rec hz (by simp) fun u0 z0 m0 => ?_)
    replace z0 : ZipAt u0 z TI TO .ellipsis f := z0
    replace m0 : Heap.SameBut z hp u0 := m0
    refine wpAny_bind ?_
    simp only [List.zipIdx_cons, List.zipIdx_nil, List.forIn_cons, List.forIn_nil]
    refine wpAny_bind (wpAny_bind (wpAny_onRaise ?_))
    show wpAny _ _ (Builtin.SmallTypes.nextOf (.ref i1) >>= _) _ _ ⟨u0, g, d, tk0, os⟩
    by_cases hlt1 : i < n1
    · refine wpAny_bind (D1.item i _ _ _ hlt1 (D1.over st1 m0 S.zf1) fun x1 u1 tk1 y1 sn1 m1 => wpAny_pure ?_)
      replace m1 : Heap.SameBut i1 u0 u1 := m1
      have t1 : IsTupOf2 u1 TO b1 b2 := m1.extBut _ _ S.Ti1 (m0.extBut _ _ S.TOz hTO)
      refine wpAny_bind (wpAny_seqItems (s := ⟨u1, g, d, tk1, os⟩) t1 rfl ?_)
      refine wpAny_bind (updateSeq_IsTupOf2 (s := ⟨u1, g, d, tk1, os⟩) t1 fun u2 t2 m2 => ?_)
      replace m2 : Heap.SameBut TO u1 u2 := m2
      refine wpAny_bind (wpAny_letGo (wpAny_pure ?_))
      have hi2 : i = n2 := by omega
      refine wpAny_bind (wpAny_bind (wpAny_onRaise ?_))
      show wpAny _ _ (Builtin.SmallTypes.nextOf (.ref i2) >>= _) _ _ ⟨u2, g, d, tk1, os⟩
      refine wpAny_bind (D2.done ⟨u2, g, d, tk1, os⟩ _ _ (by rw [← hi2]; exact D2.over (D2.over (D2.over st2 m0 S.zf2) m1 S.sep1_2) m2 S.Tf2) fun u3 e m3 he => ?_)
      replace m3 : Heap.ExtBut i2 u2 u3 := m3
      obtain ⟨oe, hoe, hce⟩ := he
      replace hoe : u3.get? e = some oe := hoe
      have z3 : ZipAt u3 z TI TO .ellipsis f := m3 _ _ S.zi2 (m2.extBut _ _ S.TOz.symm (m1.extBut _ _ S.zi1 z0))
      have ez : e ≠ z := fun x => by subst x; rw [z3] at hoe; cases hoe; simp at hce
      refine wpAny_setField_rec (s := ⟨u3, g, d, tk1, os⟩) z3 (by simp) fun u4 _ m4 => ?_
      replace m4 : Heap.SameBut z u3 u4 := m4
      exact hE u4 tk1 e (fun c o a0 a1 a2 a3 x => m4.extBut _ _ a0 (m3 _ _ a3 (m2.extBut _ _ a1 (m1.extBut _ _ a2 (m0.extBut _ _ a0 x))))) ⟨oe, m4.extBut _ _ ez hoe, hce⟩
    · have hi1 : i = n1 := by omega
      refine wpAny_bind (D1.done ⟨u0, g, d, tk0, os⟩ _ _ (by rw [← hi1]; exact D1.over st1 m0 S.zf1) fun u3 e m3 he => ?_)
      replace m3 : Heap.ExtBut i1 u0 u3 := m3
      obtain ⟨oe, hoe, hce⟩ := he
      replace hoe : u3.get? e = some oe := hoe
      have z3 : ZipAt u3 z TI TO .ellipsis f := m3 _ _ S.zi1 z0
      have ez : e ≠ z := fun x => by subst x; rw [z3] at hoe; cases hoe; simp at hce
      refine wpAny_setField_rec (s := ⟨u3, g, d, tk0, os⟩) z3 (by simp) fun u4 _ m4 => ?_
      replace m4 : Heap.SameBut z u3 u4 := m4
      exact hE u4 tk0 e (fun c o a0 a1 a2 a3 x => m4.extBut _ _ a0 (m3 _ _ a2 (m0.extBut _ _ a0 x))) ⟨oe, m4.extBut _ _ ez hoe, hce⟩
  · replace m1 : Heap.SameBut z hp u1 := m1
    simp only [Bool.false_eq_true, if_false]
    refine wpAny_bind ?_
    rw [← Array.forIn_toList]
    simp only [List.forIn_cons, List.forIn_nil]
    refine wpAny_bind (wpAny_bind (wpAny_holding ?_))
    show wpAny _ _ (Builtin.SmallTypes.nextOf (.ref i1) >>= _) _ _ ⟨u1, g, d, tk0, os⟩
    by_cases hlt1 : i < n1
    · refine wpAny_bind (D1.item i _ _ _ hlt1 (D1.over st1 m1 S.zf1) fun x1 u2 tk1 y1 sn1 m2 => wpAny_pure ?_)
      replace m2 : Heap.SameBut i1 u1 u2 := m2
      have hi2 : i = n2 := by omega
      refine wpAny_pure ?_
      refine wpAny_bind (wpAny_bind (wpAny_holding ?_))
      show wpAny _ _ (Builtin.SmallTypes.nextOf (.ref i2) >>= _) _ _ ⟨u2, g, d, tk1, os⟩
      refine wpAny_bind (D2.done ⟨u2, g, d, tk1, os⟩ _ _ (by rw [← hi2]; exact D2.over (D2.over st2 m1 S.zf2) m2 S.sep1_2) fun q e hq he => ?_)
      exact hE q tk1 e (fun c o a0 _ a2 a3 x => hq _ _ a3 (m2.extBut _ _ a2 (m1.extBut _ _ a0 x))) he
    · have hi1 : i = n1 := by omega
      refine wpAny_bind (D1.done ⟨u1, g, d, tk0, os⟩ _ _ (by rw [← hi1]; exact D1.over st1 m1 S.zf1) fun q e hq he => ?_)
      exact hE q tk0 e (fun c o a0 _ a2 a3 x => hq _ _ a2 (m1.extBut _ _ a0 x)) he
/-- the zip before its i-th draw -/
def ZSt (z TI TO i1 i2 : Addr) (St1 St2 : Nat → Heap → Prop) (i : Nat) (h : Heap) : Prop :=
  ZipAny h z TI TO ∧ IsTupOf2 h TI (.ref i1) (.ref i2) ∧ (∃ a1 a2, IsTupOf2 h TO a1 a2) ∧ St1 i h ∧ St2 i h
theorem nextOf_zip_item {Q : Value → Shared → Prop} (S : ZipSep2 z TI TO i1 i2 fp1 fp2) (D1 : Draws prog w A.in1 i1 fp1 n1 P1 St1) (D2 : Draws prog w A.in1 i2 fp2 n2 P2 St2) (hst : ZSt z TI TO i1 i2 St1 St2 i s.heap) (hlt : i < min n1 n2)
    (hQ : ∀ x1 x2 h' tk, P1 i x1 → P2 i x2 → ZSt z TI TO i1 i2 St1 St2 (i + 1) h' → IsTupOf2 h' s.heap.objs.size x1 x2 → h'.objs.size = s.heap.objs.size + 1 →
      (∀ c o, c ≠ z → c ≠ TO → c ≠ i1 → c ≠ i2 → s.heap.get? c = some o → h'.get? c = some o) → Q (.ref s.heap.objs.size) { s with heap := h', toks := tk }) :
    wpAny (model prog w) A (Builtin.SmallTypes.nextOf (.ref z)) Q E s := by
  obtain ⟨hz, hTI, hTO, st1, st2⟩ := hst
  have hTy : s.TypeIs (.ref z) "zip" := by
    obtain ⟨_, _, _, e⟩ := hz
    exact ⟨_, e, rfl⟩
  unfold Builtin.SmallTypes.nextOf
  refine wpAny_bind (wpAny_callSpecial?_slot (name := Str.ofString "__next__") hTy F.slot_zip_next
    (wpAny_call_entry F.slot_zip_next hTy F.entry_zip_next
      (zipA_item (Q := fun v s' => wpAny (model prog w) A (pure v) Q E s') S D1 D2 hz hTI hTO st1 st2 (by omega) (by omega) fun x1 x2 h' tk y1 y2 c1 c2 d1 d2 c5 c6 c7 => ?_) (F.args_zip_next_1 _)))
  exact wpAny_pure (hQ x1 x2 h' tk y1 y2 ⟨c1, c7 _ _ S.TIz S.TITO S.TIi1 S.TIi2 hTI, c2, d1, d2⟩ c5 c6 c7)
theorem nextOf_zip_end {Q : Value → Shared → Prop} (S : ZipSep2 z TI TO i1 i2 fp1 fp2) (D1 : Draws prog w A.in1 i1 fp1 n1 P1 St1) (D2 : Draws prog w A.in1 i2 fp2 n2 P2 St2) (hst : ZSt z TI TO i1 i2 St1 St2 (min n1 n2) s.heap)
    (hE : ∀ h' tk e, (∀ c o, c ≠ z → c ≠ TO → c ≠ i1 → c ≠ i2 → s.heap.get? c = some o → h'.get? c = some o) → (∃ o, h'.get? e = some o ∧ o.cls = .type "StopIteration") → E (.ref e) { s with heap := h', toks := tk }) :
    wpAny (model prog w) A (Builtin.SmallTypes.nextOf (.ref z)) Q E s := by
  obtain ⟨hz, hTI, hTO, st1, st2⟩ := hst
  have hTy : s.TypeIs (.ref z) "zip" := by
    obtain ⟨_, _, _, e⟩ := hz
    exact ⟨_, e, rfl⟩
  unfold Builtin.SmallTypes.nextOf
  exact wpAny_bind (wpAny_callSpecial?_slot (name := Str.ofString "__next__") hTy F.slot_zip_next
    (wpAny_call_entry F.slot_zip_next hTy F.entry_zip_next
      (zipA_end S D1 D2 hz hTI hTO st1 st2 (by omega) (by omega) (by omega) hE) (F.args_zip_next_1 _)))
end
end PySem
end
section
set_option Elab.async false
set_option linter.all false
set_option autoImplicit false
set_option maxRecDepth 100000
set_option maxHeartbeats 2000000
/-! enumerate over such a zip. -/
namespace PySem
section
variable {prog : Program} {w : World} {A : Around} {E : Value → Shared → Prop} {s : Shared}
/-- enumerate's next over an iterator that makes new objects: R, what stands behind its draw -/
theorem enumG_next_item {e it : Addr} {i : Nat} {old : Value} {R : Value → Heap → Prop} {Q : Value → Shared → Prop}
    (he : IsEnum s.heap e it i old)
    (hn : ∀ (Q' : Value → Shared → Prop), (∀ x h' tk, R x h' → IsEnum h' e it i old → s.heap.objs.size < h'.objs.size → Q' x { s with heap := h', toks := tk }) → wpAny (model prog w) A (Builtin.SmallTypes.nextOf (.ref it)) Q' E s)
    (hR : ∀ x h h', R x h → (∀ b o, b ≠ e → h.get? b = some o → h'.get? b = some o) → R x h')
    (hQ : ∀ x h' tk T, R x h' → IsEnumOut h' e it ((i : Int) + 1) x T → s.heap.objs.size < T → h'.get? T = some { cls := .type "tuple", data := .seq #[.int i tk, x] } → T ≠ e → T < h'.objs.size → Q (.ref T) { s with heap := h', toks := tk + 1 }) :
    wpAny (model prog w) A (Builtin.«enumerate.__next__» ⟨[.ref e], []⟩) (fun fin s' => ∃ v, fin = .done (.ret v) ∧ Q v s') E s := by
  obtain ⟨hp, g, d, tk₀, os⟩ := s
  show wpAny _ _ (field (.ref e) 2 >>= _) _ _ _
  refine wpAny_bind (wpAny_field he rfl (x := .ref it) rfl ?_)
  refine wpAny_bind (hn _ fun x h₁ tk hx he₁ hsz₁ => ?_)
  show wpAny _ _ (field (.ref e) 3 >>= _) _ _ ⟨h₁, g, d, tk, os⟩
  refine wpAny_bind (wpAny_field he₁ rfl (x := rawInt i) rfl ?_)
  show wpAny _ _ (field (.ref e) 4 >>= _) _ _ ⟨h₁, g, d, tk, os⟩
  refine wpAny_bind (wpAny_field he₁ rfl (x := .none) rfl ?_)
  show wpAny _ _ (mkInt i >>= _) _ _ ⟨h₁, g, d, tk, os⟩
  refine wpAny_bind (wpAny_mkInt ?_)
  show wpAny _ _ (setField (.ref e) 3 (rawInt ((i : Int) + 1)) >>= _) _ _ ⟨h₁, g, d, tk + 1, os⟩
  refine wpAny_bind (wpAny_setField_rec he₁ (by simp) fun h₂ he₂ hs₂ => ?_)
  replace hs₂ : Heap.SameBut e h₁ h₂ := hs₂
  replace he₂ : IsEnum h₂ e it ((i : Int) + 1) old := he₂
  show wpAny _ _ (setField (.ref e) 4 .none >>= _) _ _ ⟨h₂, g, d, tk + 1, os⟩
  refine wpAny_bind (wpAny_setField_rec he₂ (by simp) fun h₃ he₃ hs₃ => ?_)
  replace hs₃ : Heap.SameBut e h₂ h₃ := hs₃
  replace he₃ : IsEnum h₃ e it ((i : Int) + 1) old := he₃
  show wpAny _ _ (newTuple [.int i tk, x] >>= _) _ _ ⟨h₃, g, d, tk + 1, os⟩
  refine wpAny_bind (wpAny_newTuple ?_)
  have he₄ : IsEnum (h₃.push { cls := .type "tuple", data := .seq #[.int i tk, x] }) e it ((i : Int) + 1) old := Heap.get?_push_of_some _ he₃
  have hel : e < h₃.objs.size := Heap.lt_size he₃
  have ht₄ : (h₃.push { cls := .type "tuple", data := .seq #[.int i tk, x] }).get? h₃.objs.size = some { cls := .type "tuple", data := .seq #[.int i tk, x] } := Heap.get?_push_size _ rfl
  have hz₄ : (h₃.push { cls := .type "tuple", data := .seq #[.int i tk, x] }).objs.size = h₃.objs.size + 1 := Heap.size_push _ _
  have hR₄ : R x (h₃.push { cls := .type "tuple", data := .seq #[.int i tk, x] }) := hR x h₁ _ hx fun b o hbe hb => Heap.get?_push_of_some _ (hs₃.extBut b o hbe (hs₂.extBut b o hbe hb))
  have hsz₃ : hp.objs.size < h₃.objs.size := by rw [hs₃.1, hs₂.1]; exact hsz₁
  generalize h₃.push { cls := .type "tuple", data := .seq #[.int i tk, x] } = h₄ at he₄ ht₄ hz₄ hR₄
  show wpAny _ _ (Builtin.SmallTypes.ownedTupleIsFree (.ref e) >>= _) _ _ ⟨h₄, g, d, tk + 1, os⟩
  refine wpAny_bind ?_
  · unfold Builtin.SmallTypes.ownedTupleIsFree
    refine wpAny_bind (wpAny_field he₄ rfl (x := .none) rfl (wpAny_pure ?_))
    simp only [if_true]
    refine wpAny_bind (wpAny_rule ?_)
    refine wpAny_bind (wpAny_field he₄ rfl (x := old) rfl ?_)
    refine wpAny_bind (wpAny_setField_rec he₄ (by simp) fun h₅ he₅ hs₅ => ?_)
    replace hs₅ : Heap.SameBut e h₄ h₅ := hs₅
    replace he₅ : IsEnum h₅ e it ((i : Int) + 1) x := he₅
    show wpAny _ _ (Builtin.SmallTypes.ownedTupleHandOut (.ref e) (.ref h₃.objs.size) >>= _) _ _ ⟨h₅, g, d, tk + 1, os⟩
    refine wpAny_bind ?_
    · unfold Builtin.SmallTypes.ownedTupleHandOut
      refine wpAny_bind (wpAny_setField_rec he₅ (by simp) fun h₆ he₆ hs₆ => ?_)
      replace hs₆ : Heap.SameBut e h₅ h₆ := hs₆
      replace he₆ : IsEnumOut h₆ e it ((i : Int) + 1) x h₃.objs.size := he₆
      refine wpAny_setField_rec he₆ (by simp) fun h₇ he₇ hs₇ => ?_
      replace hs₇ : Heap.SameBut e h₆ h₇ := hs₇
      replace he₇ : IsEnumOut h₇ e it ((i : Int) + 1) x h₃.objs.size := he₇
      refine wpAny_bind (wpAny_letGo (wpAny_pure ⟨_, rfl, hQ x h₇ tk _ ?_ he₇ hsz₃ ?_ (Nat.ne_of_gt hel) ?_⟩))
      · exact hR x h₄ _ hR₄ fun b o hbe y => hs₇.extBut b o hbe (hs₆.extBut b o hbe (hs₅.extBut b o hbe y))
      · exact hs₇.extBut _ _ (Nat.ne_of_gt hel) (hs₆.extBut _ _ (Nat.ne_of_gt hel) (hs₅.extBut _ _ (Nat.ne_of_gt hel) ht₄))
      · rw [hs₇.1, hs₆.1, hs₅.1, hz₄]
        exact Nat.lt_succ_self _
theorem pyNext_enumG_item {e it : Addr} {i : Nat} {old : Value} {R : Value → Heap → Prop} {Q : Option Value → Shared → Prop}
    (he : IsEnum s.heap e it i old)
    (hn : ∀ (Q' : Value → Shared → Prop) (E' : Value → Shared → Prop), (∀ x h' tk, R x h' → IsEnum h' e it i old → s.heap.objs.size < h'.objs.size → Q' x { s with heap := h', toks := tk }) → wpAny (model prog w) A.in1 (Builtin.SmallTypes.nextOf (.ref it)) Q' E' s)
    (hR : ∀ x h h', R x h → (∀ b o, b ≠ e → h.get? b = some o → h'.get? b = some o) → R x h')
    (hQ : ∀ x h' tk T, R x h' → IsEnumOut h' e it ((i : Int) + 1) x T → s.heap.objs.size < T → h'.get? T = some { cls := .type "tuple", data := .seq #[.int i tk, x] } → T ≠ e → T < h'.objs.size → Q (some (.ref T)) { s with heap := h', toks := tk + 1 }) :
    wpAny (model prog w) A (pyNext (.ref e)) Q E s := by
  have hT : s.TypeIs (.ref e) "enumerate" := ⟨_, he, rfl⟩
  unfold pyNext
  exact wpAny_bind (wpAny_attempt (wpAny_callSpecial?_slot (name := Str.ofString "__next__") hT F.slot_enumerate_next
    (wpAny_call_entry F.slot_enumerate_next hT F.entry_enumerate_next
      (enumG_next_item he (fun Q' => hn Q' _) hR fun x h' tk T a b c d k q => wpAny_pure (hQ x h' tk T a b c d k q)) (F.args_enumerate_next_1 _))))
theorem pyNext_enumG_end {e it : Addr} {i : Int} {old : Value} {G : Heap → Prop} {Q : Option Value → Shared → Prop} (he : IsEnum s.heap e it i old)
    (hn : ∀ (Q' : Value → Shared → Prop) (E' : Value → Shared → Prop), (∀ h' tk x, G h' → (∃ o, h'.get? x = some o ∧ o.cls = .type "StopIteration") → E' (.ref x) { s with heap := h', toks := tk }) → wpAny (model prog w) A.in1 (Builtin.SmallTypes.nextOf (.ref it)) Q' E' s)
    (hQ : ∀ h' tk, G h' → Q none { s with heap := h', toks := tk }) : wpAny (model prog w) A (pyNext (.ref e)) Q E s := by
  have hT : s.TypeIs (.ref e) "enumerate" := ⟨_, he, rfl⟩
  unfold pyNext
  refine wpAny_bind (wpAny_attempt (wpAny_callSpecial?_slot (name := Str.ofString "__next__") hT F.slot_enumerate_next
    (wpAny_call_entry F.slot_enumerate_next hT F.entry_enumerate_next ?_ (F.args_enumerate_next_1 _))))
  show wpAny _ _ (field (.ref e) 2 >>= _) _ _ _
  refine wpAny_bind (wpAny_field he rfl (x := .ref it) rfl ?_)
  refine wpAny_bind (hn _ _ fun h' tk x g hx => ?_)
  obtain ⟨o, ho, hc⟩ := hx
  refine wpAny_bind (wpAny_isInstance (T := "StopIteration") (b := true) ⟨o, ho, hc⟩ isSubtype_stop ?_)
  exact wpAny_pure (hQ _ _ g)
end
section
variable {prog : Program} {w : World} {A : Around} {z TI TO i1 i2 e : Addr} {fp1 fp2 : List Addr} {n1 n2 : Nat} {P1 P2 : Nat → Value → Prop} {St1 St2 : Nat → Heap → Prop} {elts : List Expr} {x1 : Nat} {pos : Pos}
theorem ZSt.at_ {B B' : Around} (D1 : Draws prog w B i1 fp1 n1 P1 St1) (D2 : Draws prog w B' i2 fp2 n2 P2 St2) {i : Nat} {h h' : Heap} (q : ZSt z TI TO i1 i2 St1 St2 i h) (k : ∀ b ∈ z :: TI :: TO :: (fp1 ++ fp2), ∀ o, h.get? b = some o → h'.get? b = some o) : ZSt z TI TO i1 i2 St1 St2 i h' := by
  obtain ⟨q1, q2, ⟨a1, a2, q3⟩, q4, q5⟩ := q
  exact ⟨q1.at_ (k _ (by simp)), k _ (by simp) _ q2, ⟨a1, a2, k _ (by simp) _ q3⟩, D1.frame _ _ _ q4 fun b hb => k b (by simp [hb]), D2.frame _ _ _ q5 fun b hb => k b (by simp [hb])⟩
/-- for i, (a, b) in enumerate(zip(v1, v2)) -/
theorem GoesN.enumZip (S : ZipSep2 z TI TO i1 i2 fp1 fp2) (D1 : Draws prog w A.in1.in1 i1 fp1 n1 P1 St1) (D2 : Draws prog w A.in1.in1 i2 fp2 n2 P2 St2) (he : e ∉ z :: TI :: TO :: (fp1 ++ fp2)) :
    GoesN prog w A (.Tuple elts x1 pos) e (e :: z :: TI :: TO :: (fp1 ++ fp2)) [e, z, TO, i1, i2] (min n1 n2)
      (fun i h₀ v h => ∃ T T2 t x y, v = .ref T ∧ h₀.objs.size ≤ T2 ∧ T2 < T ∧ P1 i x ∧ P2 i y ∧ h.IsTuple T2 #[x, y] ∧ h.IsTuple T #[.int (i : Int) t, .ref T2])
      (fun i h => (∃ old, IsEnum h e z (i : Int) old) ∧ ZSt z TI TO i1 i2 St1 St2 i h) where
  sub := fun b hb => by
    have q : b = e ∨ b = z ∨ b = TO ∨ b = i1 ∨ b = i2 := by simpa using hb
    have m1 := S.mem1
    have m2 := S.mem2
    rcases q with q | q | q | q | q <;> subst q <;> simp [m1, m2]
  frame := fun i h h' st k => by
    obtain ⟨⟨old, q⟩, st⟩ := st
    exact ⟨⟨old, k _ (by simp) _ q⟩, st.at_ D1 D2 fun b hb => k b (List.mem_cons_of_mem _ hb)⟩
  goes := fun i s Q E hi st hQ => by
    obtain ⟨⟨old, q⟩, st⟩ := st
    have ne : ∀ b ∈ z :: TI :: TO :: (fp1 ++ fp2), b ≠ e := fun b hb x => he (x ▸ hb)
    have ez : e ≠ z := (ne z (by simp)).symm
    have eT : e ≠ TO := (ne TO (by simp)).symm
    have e1 : e ≠ i1 := (ne i1 (by simp [S.mem1])).symm
    have e2 : e ≠ i2 := (ne i2 (by simp [S.mem2])).symm
    have sz : e < s.heap.objs.size := Heap.lt_size q
    refine wpAny_with_toks (n := s.toks) (Nat.le_refl _) (pyNext_enumG_item (R := fun v h => v = .ref s.heap.objs.size ∧ ∃ x y, P1 i x ∧ P2 i y ∧ IsTupOf2 h s.heap.objs.size x y ∧ ZSt z TI TO i1 i2 St1 St2 (i + 1) h ∧ (∀ b o, b ∉ [e, z, TO, i1, i2] → s.heap.get? b = some o → h.get? b = some o)) q
      (fun Q' E' kk => nextOf_zip_item S D1 D2 st hi fun x y h' tk p1 p2 st' t' sz' k => kk _ h' tk ⟨rfl, x, y, p1, p2, t', st', fun b o hb => k b o (fun z => hb (by simp [z])) (fun z => hb (by simp [z])) (fun z => hb (by simp [z])) (fun z => hb (by simp [z]))⟩ (k _ _ ez eT e1 e2 q) (by rw [sz']; exact Nat.lt_succ_self _))
      (fun v h h' ⟨r1, x, y, p1, p2, t', st', k⟩ k' => ⟨r1, x, y, p1, p2, k' _ _ (Nat.ne_of_gt sz) t', st'.at_ D1 D2 fun b hb o => k' b o (ne b hb), fun b o hb x => k' b o (fun z => hb (by simp [z])) (k b o hb x)⟩)
      fun v h' tk T ⟨r1, x, y, p1, p2, t', st', k⟩ ho hT1 hT2 hTe hT3 => ?_)
    subst r1
    intro htk
    refine ⟨_, rfl, wpAny_letOwnedTupleGo_enum ho fun h2 e2 m2 => hQ (.ref T) h2 (tk + 1) ⟨T, s.heap.objs.size, tk, x, y, rfl, Nat.le_refl _, hT1, p1, p2, ?_, ?_⟩ ⟨⟨.ref s.heap.objs.size, ?_⟩, ?_⟩ (fun b o hb x => ?_) htk⟩
    · exact ⟨_, m2.extBut _ _ (Nat.ne_of_gt sz) t', rfl, _, rfl⟩
    · exact ⟨_, m2.extBut _ _ hTe hT2, rfl, _, rfl⟩
    · exact e2
    · exact st'.at_ D1 D2 fun b hb o => m2.extBut b o (ne b hb)
    · exact m2.extBut _ _ (fun z => hb (by simp [z])) (k b o hb x)
  stops := fun s Q E st hQ => by
    obtain ⟨⟨old, q⟩, st⟩ := st
    refine wpAny_with_toks (n := s.toks) (Nat.le_refl _) (pyNext_enumG_end (G := fun h => ∀ b o, b ∉ [e, z, TO, i1, i2] → s.heap.get? b = some o → h.get? b = some o) q
      (fun Q' E' kk => nextOf_zip_end S D1 D2 st fun h' tk x k hx => kk h' tk x (fun b o hb => k b o (fun z => hb (by simp [z])) (fun z => hb (by simp [z])) (fun z => hb (by simp [z])) (fun z => hb (by simp [z]))) hx)
      fun h' tk k htk => ⟨rfl, hQ h' tk k htk⟩)
  self := fun i s Q E st hQ => by
    obtain ⟨⟨old, q⟩, _⟩ := st
    exact wpAny_pyIter_enum q hQ
end
end PySem
end
section
set_option Elab.async false
set_option linter.all false
set_option autoImplicit false
set_option maxRecDepth 100000
set_option maxHeartbeats 2000000
/-! for i, (a, b) in enumerate(zip(..)). -/
namespace DL
open PySem PySem.Spec L2
open PyProof.Rows hiding St

/-! ### two new objects at once -/
theorem turned2 {X : Cx} {pins : List (Addr × Obj)} {σ : St} {H : Hp} {s : Shared} {h' : Heap} {t' : Nat} {ch : List Addr} {T T2 : Addr} {ob ob2 : HO} (I : Inv X pins σ H s) (k : ∀ b o, b ∉ ch → s.heap.get? b = some o → h'.get? b = some o) (hf : ∀ b ∈ ch, FpOk X pins H b) (hT2 : s.heap.objs.size ≤ T2) (hT : T2 < T)
    (new2 : ObjOk X.prog X.w (upd (upd H T2 ob2) T ob) h' T2 ob2) (new : ObjOk X.prog X.w (upd (upd H T2 ob2) T ob) h' T ob) : Inv X pins σ (upd (upd H T2 ob2) T ob) { s with heap := h', toks := t' } := by
  have hT' : s.heap.objs.size ≤ T := Nat.le_trans hT2 (Nat.le_of_lt hT)
  have ne : T ≠ T2 := Nat.ne_of_gt hT
  have n2 : H T2 = none := I.hok.fresh hT2
  have n1 : H T = none := I.hok.fresh hT'
  have old : ∀ b u, H b = some u → (upd (upd H T2 ob2) T ob) b = some u := fun b u e => by rw [upd_ne (ne_of_none e n1), upd_ne (ne_of_none e n2)]; exact e
  have nit : ∀ b u, H b = some u → b ∉ ch := fun b u e z => by
    have q := (hf b z).1
    rw [q] at e; cases e
  refine I.step (g' := s.gens) (d' := s.drawn) (ch := ch) (fun b hb => ⟨(hf b hb).2.2.2.1, (hf b hb).2.1, (hf b hb).2.2.2.2.1, (hf b hb).2.2.2.2.2⟩) (fun b o _ _ hc e _ => k b o hc e) (fun b o _ _ hc e _ => ⟨o.slots, k b o hc e⟩)
    (fun b o _ e n => ?_) (fun b o hc e => ⟨o, k b o hc e⟩) (fun b xs e => old b _ e) (fun b o u e => ?_) (fun b ps e => ⟨#[], ?_⟩) (fun m hm => ?_) (fun b u e => ?_) I.bare
  · have lt := Heap.lt_size e
    rw [upd_ne (Nat.ne_of_lt (Nat.lt_of_lt_of_le lt hT')), upd_ne (Nat.ne_of_lt (Nat.lt_of_lt_of_le lt hT2))]; exact n
  · exact old b _ e
  · rw [old b _ e]; simp
  · obtain ⟨o, es, ep, ho, r⟩ := hm
    exact ⟨o, es, ep, k _ o (fun z => (hf _ z).2.1 rfl) ho, r⟩
  · by_cases hb : b = T
    · subst hb
      rw [upd_same] at e
      cases e
      exact new
    · rw [upd_ne hb] at e
      by_cases hb2 : b = T2
      · subst hb2
        rw [upd_same] at e
        cases e
        exact new2
      · rw [upd_ne hb2] at e
        refine (I.hok b u e).stay (fun c v hc q => k c v ?_ q) (fun c q => old c _ q) fun c xs q => old c _ q
        rcases hc with z | z
        · rw [z]; exact nit b u e
        · exact nit c _ z
def JtE (SH : Hp → Prop) (n : Nat) (xs ys : List V) : It :=
  ⟨fun i H => SH H ∧ i < n, fun i H v H' => ∃ T T2 x y, v = .ref T ∧ H T2 = none ∧ H T = none ∧ T ≠ T2 ∧ H' = upd (upd H T2 (.tup [x, y])) T (.tup [.int (i : Int), .ref T2]) ∧ xs[i]? = some x ∧ ys[i]? = some y, fun i H => SH H ∧ n = i⟩
theorem turn_enumZip {P : Program} {w : World} {K : PySem.W.Frag} {elts : List Expr} {kk : Nat} {tpos : Pos} (b1 b2 : Bool) (a1 a2 : Addr) (xs ys : List V) {N : Nat} (h1 : a1 < N) (h2 : a2 < N) :
    Turn P w K (.Tuple elts kk tpos) (JtE (fun H => Sq b1 K H a1 xs ∧ Sq b2 K H a2 ys) (min xs.length ys.length) xs ys) [N + 5, N + 4, N + 2, N + 3, N, N + 1] (N + 5)
      (fun i h => ∃ h0, ((∃ old, IsEnum h0 (N + 5) (N + 4) (i : Int) old) ∧ ZSt (N + 4) (N + 2) (N + 3) N (N + 1) (DSt b1 N a1 xs) (DSt b2 (N + 1) a2 ys) i h0) ∧ ∀ b ∈ [N + 5, N + 4, N + 2, N + 3, N, N + 1], ∀ o, h0.get? b = some o → h.get? b = some o) := by
  have hG : ∀ A : Around, A.handled = none → GoesN P w A (.Tuple elts kk tpos) (N + 5) ((N + 5) :: (N + 4) :: (N + 2) :: (N + 3) :: ([N, a1] ++ [N + 1, a2])) [N + 5, N + 4, N + 3, N, N + 1] (min xs.length ys.length) _ _ := fun A hh =>
    GoesN.enumZip (zip_sep2 (N := N) (fp1 := [a1]) (fp2 := [a2]) (fun b hb => by rw [List.mem_singleton.mp hb]; exact h1) (fun b hb => by rw [List.mem_singleton.mp hb]; exact h2))
      (draws (A := A.in1.in1) hh b1 N a1 (Nat.ne_of_lt h1) xs) (draws (A := A.in1.in1) hh b2 (N + 1) a2 (Nat.ne_of_lt (Nat.lt_succ_of_lt h2)) ys) (by
        intro hm
        have q : N + 5 = N + 4 ∨ N + 5 = N + 2 ∨ N + 5 = N + 3 ∨ N + 5 = N ∨ N + 5 = a1 ∨ N + 5 = N + 1 ∨ N + 5 = a2 := by simpa using hm
        rcases q with q | q | q | q | q | q | q
        · omega
        · omega
        · omega
        · omega
        · exact absurd h1 (by rw [← q]; exact Nat.not_lt.mpr (Nat.le_add_right _ _))
        · omega
        · exact absurd h2 (by rw [← q]; exact Nat.not_lt.mpr (Nat.le_add_right _ _)))
  have hwr : ∀ b ∈ [N + 5, N + 4, N + 3, N, N + 1], b ∈ [N + 5, N + 4, N + 2, N + 3, N, N + 1] := fun b hb => by
    simp only [List.mem_cons, List.not_mem_nil, or_false] at hb ⊢
    rcases hb with z | z | z | z | z <;> simp [z]
  have hob : ∀ (i : Nat) (h : Heap), ((∃ old, IsEnum h (N + 5) (N + 4) (i : Int) old) ∧ ZSt (N + 4) (N + 2) (N + 3) N (N + 1) (DSt b1 N a1 xs) (DSt b2 (N + 1) a2 ys) i h) → ∀ b ∈ [N + 5, N + 4, N + 2, N + 3, N, N + 1], ∃ o, h.get? b = some o ∧ ∀ v, o.data ≠ .cell v := fun i h st b hb => by
    obtain ⟨⟨old, e⟩, z, t, ⟨u, v, o⟩, d1, d2⟩ := st
    have e' : b = N + 5 ∨ b = N + 4 ∨ b = N + 2 ∨ b = N + 3 ∨ b = N ∨ b = N + 1 := by simpa using hb
    rcases e' with q | q | q | q | q | q
    · rw [q]; exact ⟨_, e, fun v q => nomatch q⟩
    · rw [q]; exact z.obj
    · rw [q]; exact ⟨_, t, fun v q => nomatch q⟩
    · rw [q]; exact ⟨_, o, fun v q => nomatch q⟩
    · rw [q]; exact isIter_obj b1 d1.1
    · rw [q]; exact isIter_obj b2 d2.1
  have hfr : ∀ (i : Nat) (h h' : Heap), ((∃ old, IsEnum h (N + 5) (N + 4) (i : Int) old) ∧ ZSt (N + 4) (N + 2) (N + 3) N (N + 1) (DSt b1 N a1 xs) (DSt b2 (N + 1) a2 ys) i h) → (∀ b ∈ [N + 5, N + 4, N + 2, N + 3, N, N + 1], ∀ o, h.get? b = some o → h'.get? b = some o) → SR1 b1 a1 xs h' → SR1 b2 a2 ys h' → ((∃ old, IsEnum h' (N + 5) (N + 4) (i : Int) old) ∧ ZSt (N + 4) (N + 2) (N + 3) N (N + 1) (DSt b1 N a1 xs) (DSt b2 (N + 1) a2 ys) i h') := fun i h h' st k sr1 sr2 => by
    obtain ⟨⟨old, e⟩, z, t, ⟨u, v, o⟩, d1, d2⟩ := st
    exact ⟨⟨old, k _ (by simp) _ e⟩, z.at_ (k _ (by simp)), k _ (by simp) _ t, ⟨u, v, k _ (by simp) _ o⟩, ⟨isIter_at b1 d1.1 fun o e => k _ (by simp) o e, sr1⟩, ⟨isIter_at b2 d2.1 fun o e => k _ (by simp) o e, sr2⟩⟩
  refine { mem := by simp, obj := ?_, keep := ?_, item := ?_, done := ?_, self := ?_ }
  · intro i h ⟨h0, st, k⟩ b hb
    obtain ⟨o, e, d⟩ := hob i h0 st b hb
    exact ⟨o, k b hb o e, d⟩
  · exact fun i h h' ⟨h0, st, k⟩ k' => ⟨h0, st, fun b hb o e => k' b hb o (k b hb o e)⟩
  · intro X hX hw hK hc i pins s σ H E I0 hf st hg
    subst hX hw hK
    obtain ⟨h0, st, k⟩ := st
    obtain ⟨hs, hi⟩ := hg
    have stS := hfr i h0 s.heap st k (sq_seq b1 I0 hs.1) (sq_seq b2 I0 hs.2)
    refine wpAny_mono ((hG X.A (I0.ok.hd hc)).goes i s (fun v s2 => ∃ T T2 t x y u u' h' tk, v = .ref T ∧ s2 = { s with heap := h', toks := tk } ∧ RelV x u ∧ RelV y u' ∧ xs[i]? = some x ∧ ys[i]? = some y ∧ s.heap.objs.size ≤ T2 ∧ T2 < T ∧ h'.IsTuple T2 #[u, u'] ∧ h'.IsTuple T #[.int (i : Int) t, .ref T2] ∧ ((∃ old, IsEnum h' (N + 5) (N + 4) ((i + 1 : Nat) : Int) old) ∧ ZSt (N + 4) (N + 2) (N + 3) N (N + 1) (DSt b1 N a1 xs) (DSt b2 (N + 1) a2 ys) (i + 1) h') ∧ (∀ b o, b ∉ [N + 5, N + 4, N + 3, N, N + 1] → s.heap.get? b = some o → h'.get? b = some o)) E hi stS fun v h' tk ⟨T, T2, t, u, u', ev, hT2, hT, p1, p2, t2, t1⟩ st' hk _ => ?_) (fun r s1 ⟨v, e, h⟩ => ⟨v, e, wpAny_mono h (fun _ s2 q => ?_) fun _ _ z => z⟩) fun _ _ z => z
    · obtain ⟨x, hx, rx⟩ := p1
      obtain ⟨y, hy, ry⟩ := p2
      exact ⟨T, T2, t, x, y, u, u', h', tk, ev, rfl, rx, ry, hx, hy, hT2, hT, t2, t1, st', hk⟩
    · obtain ⟨T, T2, t, x, y, u, u', h', tk, ev, es2, rx, ry, hx, hy, hT2, hT, t2, t1, st', hk⟩ := q
      subst ev es2
      have hT' : s.heap.objs.size ≤ T := Nat.le_trans hT2 (Nat.le_of_lt hT)
      refine ⟨.ref T, _, turned2 (ob := .tup [.int (i : Int), .ref T2]) (ob2 := .tup [x, y]) I0 (t' := tk) (ch := [N + 5, N + 4, N + 2, N + 3, N, N + 1]) (fun b o hb e => hk b o (fun z => hb (hwr b z)) e) hf hT2 hT ⟨by show 2 ≤ sizeLine; decide, _, vals2 rx ry, t2⟩ ⟨by show 2 ≤ sizeLine; decide, _, vals2 ⟨t, rfl⟩ rfl, t1⟩, rfl, ⟨T, T2, x, y, rfl, I0.hok.fresh hT2, I0.hok.fresh hT', Nat.ne_of_gt hT, rfl, hx, hy⟩, ⟨h', st', fun _ _ _ e => e⟩, fun b hb => ?_⟩
      obtain ⟨o, e, _⟩ := hob i h0 st b hb
      have hlt : b < s.heap.objs.size := Heap.lt_size (k b hb o e)
      rw [upd_ne (Nat.ne_of_lt (Nat.lt_of_lt_of_le hlt hT')), upd_ne (Nat.ne_of_lt (Nat.lt_of_lt_of_le hlt hT2))]
      exact (hf b hb).1
  · intro X hX hw hK hc i pins s σ H E I0 hf st hg
    subst hX hw hK
    obtain ⟨h0, st, k⟩ := st
    obtain ⟨hs, hi⟩ := hg
    subst hi
    have stS := hfr _ h0 s.heap st k (sq_seq b1 I0 hs.1) (sq_seq b2 I0 hs.2)
    exact (hG X.A (I0.ok.hd hc)).stops s (fun s1 => Inv X pins σ H s1) E stS fun h' tk hk _ => I0.turnedL (t' := tk) (ch := [N + 5, N + 4, N + 2, N + 3, N, N + 1]) (fun b o hb e => hk b o (fun z => hb (hwr b z)) e) hf
  · intro A i s Q E ⟨h0, st, k⟩ hQ
    obtain ⟨⟨old, e⟩, _⟩ := st
    exact wpAny_pyIter_enum (k _ (by simp) _ e) hQ
/-! ### enumerate(z) begins, z its own iterator -/
theorem meets_enumS {z : Addr} {G : Heap → Prop} (hI : ∀ (prog : Program) (w : World) (A : Around) (E : Value → Shared → Prop) (Q : Value → Shared → Prop) (s : Shared), G s.heap → Q (.ref z) s → wpAny (model prog w) A (pyIter (.ref z)) Q E s) : Meets (Builtin.«enumerate.__new__» ⟨[.type "enumerate", .ref z], []⟩) (fun _ R s => G s.heap ∧
    R (.ok (.ret (.ref s.heap.objs.size))) { s with heap := s.heap.push { cls := .type "enumerate", data := .fields #[.none, .bool false, .ref z, rawInt 0, .none, .none] } }) :=
  .of_wp fun prog w A R s h => by
    obtain ⟨hp, ge, dr, tk, os⟩ := s
    obtain ⟨hG, h⟩ := h
    have hsub := sub_enumerate
    have it1 : ∀ {A' : Around} {E : Value → Shared → Prop} {Q : Value → Shared → Prop}, Q (.ref z) ⟨hp, ge, dr, tk, os⟩ → wpAny (model prog w) A' (pyIter (.ref z)) Q E ⟨hp, ge, dr, tk, os⟩ :=
      fun q => hI prog w _ _ _ ⟨hp, ge, dr, tk, os⟩ hG q
    wp_walk using it1
    refine wpAny_stack_any fun st => wpAny_pure ?_
    split
    · rename_i c _ _ _ _ _
      cases (c == Value.type "enumerate") <;> (wp_walk using it1; exact ⟨_, rfl, h⟩)
    · wp_walk using it1
      exact ⟨_, rfl, h⟩
theorem enum_beginsS {prog : Program} {w : World} {A : Around} {E : Value → Shared → Prop} {s : Shared} {z : Addr} {G : Heap → Prop} {Q : Value → Shared → Prop} (hI : ∀ (prog : Program) (w : World) (A : Around) (E : Value → Shared → Prop) (Q : Value → Shared → Prop) (s : Shared), G s.heap → Q (.ref z) s → wpAny (model prog w) A (pyIter (.ref z)) Q E s) (hG : G s.heap)
    (h : ∀ h', IsEnum h' s.heap.objs.size z 0 .none → (∀ b u, s.heap.get? b = some u → h'.get? b = some u) → Q (.ref s.heap.objs.size) { s with heap := h' }) :
    wpAny (model prog w) A (call (.type "enumerate") [.ref z]) Q E s := by
  refine callType_new F.called_enumerate (by decide) (F.typeCall_enumerate_1 _) (F.newCall_enumerate_1 _) (fun obj => F.args_object_init_2 obj _) F.entry_enumerate_new (meets_enumS hI) ⟨hG, ?_⟩
  have en : IsEnum (s.heap.push { cls := .type "enumerate", data := .fields #[.none, .bool false, .ref z, rawInt 0, .none, .none] }) s.heap.objs.size z 0 .none := Heap.get?_push_size _ rfl
  exact ⟨⟨_, en, rfl⟩, h _ en fun b u e => Heap.get?_push_of_some _ e⟩
def iEZ (K : PySem.W.Frag) (b1 b2 : Bool) (ta : TA) : TI := fun σ H R => ta σ H fun vs H1 => ∃ a1 a2 xs ys, vs = [.ref a1, .ref a2] ∧ Sq b1 K H1 a1 xs ∧ Sq b2 K H1 a2 ys ∧ R (JtE (fun H => Sq b1 K H a1 xs ∧ Sq b2 K H a2 ys) (min xs.length ys.length) xs ys) H1
section
variable {X : Cx} {e e2 : Expr} {ta : TA} {p p' pos pos' tpos : Pos} {elts : List Expr} {kk : Nat}
theorem pi_enumZip (b1 b2 : Bool) (hg : Gl X "zip") (hm : X.mg "zip" = none) (hge : Gl X "enumerate") (hme : X.mg "enumerate" = none) (ha : PA X [e, e2] ta) (hs : starEach [e, e2] X.env = (false, eval e X.env) :: starEach [e2] X.env := by rfl) (hpl : (backTo pos' (starEach [e2] X.env)).any (·.1) = false := by rfl)
    (hz : starEach [.Call (.Name "zip" p') [e, e2] [] pos'] X.env = [(false, eval (.Call (.Name "zip" p') [e, e2] [] pos') X.env)] := by rfl) :
    PI X (.Tuple elts kk tpos) (.Call (.Name "enumerate" p) [.Call (.Name "zip" p') [e, e2] [] pos'] [] pos) (iEZ X.K b1 b2 ta) := by
  refine ⟨fun pins s σ H R I h => Call_ (ld_blt I hge hme boot_enumerate (PyProof.Rows.callWith_type1 ?_ hz rfl))⟩
  rw [hz]
  show wpAny _ _ (spliced ((false, eval (.Call (.Name "zip" p') [e, e2] [] pos') X.env) :: [])) _ _ s
  refine Calls.spliced_cons (Call_ (ld_blt I hg hm PyProof.Rows.boot_zip (PyProof.Rows.callWith_type1 (thn (ha.run pos' pins s σ H _ I h) fun us s1 ⟨vs, H1, I1, r1, q1⟩ => ?_) hs hpl)))
  obtain ⟨a1, a2, xs, ys, rfl, sx, sy, q⟩ := q1
  cases r1 with
  | cons r rr =>
    cases rr with
    | cons r' rr =>
      cases rr
      cases r
      cases r'
      obtain ⟨its1, rv1, p1⟩ := sq_seq b1 I1 sx
      obtain ⟨its2, rv2, p2⟩ := sq_seq b2 I1 sy
      refine zip_begins2 (begins b1 a1 its1.toArray) (begins b2 a2 its2.toArray) p1 p2 fun h' z t o i1 i2 sz hk => Calls.spliced_nil ?_
      refine enum_beginsS (s := { s1 with heap := h' }) (G := fun h => IsZip h (s1.heap.objs.size + 4) (s1.heap.objs.size + 2) (s1.heap.objs.size + 3) .none) (fun prog w A E Q s hz hq => wpAny_pyIter_zip hz hq) z fun h2 en hk2 => wpAny_pyIter_enum en ?_
      have e5 : h'.objs.size = s1.heap.objs.size + 5 := sz
      have en' : IsEnum h2 (s1.heap.objs.size + 5) (s1.heap.objs.size + 4) 0 .none := by
        have en2 : IsEnum h2 h'.objs.size (s1.heap.objs.size + 4) 0 .none := en
        rw [e5] at en2
        exact en2
      have I2 : Inv X pins σ H1 { s1 with heap := h2 } := I1.kept (t' := s1.toks) fun b u e => hk2 b u (hk b u e)
      refine ⟨s1.heap.objs.size + 5, _, _, _, H1, ?_, I2, turn_enumZip b1 b2 a1 a2 xs ys (isSeq_lt b1 p1) (isSeq_lt b2 p2), ⟨h2, ⟨⟨_, en'⟩, ⟨_, _, .inl rfl, hk2 _ _ z⟩, hk2 _ _ t, ⟨_, _, hk2 _ _ o⟩, ⟨isIter_at b1 (isIter_new b1 i1) fun o e => hk2 _ o e, its1, rv1, isSeq_at b1 p1 fun o e => hk2 _ o (hk a1 o e)⟩, ⟨isIter_at b2 (isIter_new b2 i2) fun o e => hk2 _ o e, its2, rv2, isSeq_at b2 p2 fun o e => hk2 _ o (hk a2 o e)⟩⟩, fun _ _ _ e => e⟩,
        fresh_of I1 (fun c hc => by
          simp only [List.mem_cons, List.not_mem_nil, or_false] at hc
          rcases hc with z | z | z | z | z | z <;> rw [z] <;> first | exact Nat.le_add_right _ _ | exact Nat.le_refl _), q⟩
      show Value.ref h'.objs.size = _
      rw [e5]
end
def enumZipD (ds fs : List D) : List D := (ds.zip fs).zipIdx.map fun q => .tuple [.int (q.2 : Int), .tuple [q.1.1, q.1.2]]
section
variable {T : Addr → Prop} {X : Cx} {es : List Ent} {e e2 : Expr} {p p' pos pos' tpos : Pos} {elts : List Expr} {kk : Nat} {ds fs : List D}
theorem wk_enumZip (b1 b2 : Bool) (hm : X.mg "zip" = none) (hme : X.mg "enumerate" = none) (ha : Ev T X es e (Eq (seqD b1 ds))) (hb : Ev T X es e2 (Eq (seqD b2 fs))) (hg : Gl X "zip" := by rfl) (hge : Gl X "enumerate" := by rfl)
    (hs : starEach [e, e2] X.env = (false, eval e X.env) :: starEach [e2] X.env := by rfl) (hs2 : starEach [e2] X.env = (false, eval e2 X.env) :: starEach [] X.env := by rfl) (hpl : (backTo pos' (starEach [e2] X.env)).any (·.1) = false := by rfl)
    (hz : starEach [.Call (.Name "zip" p') [e, e2] [] pos'] X.env = [(false, eval (.Call (.Name "zip" p') [e, e2] [] pos') X.env)] := by rfl) :
    Wk T X es (.Tuple elts kk tpos) (.Call (.Name "enumerate" p) [.Call (.Name "zip" p') [e, e2] [] pos'] [] pos) (Eq (enumZipD ds fs)) := fun p H σ R g o k =>
  wI_of (pi_enumZip b1 b2 hg hm hge hme (pa_cons pe_w (pa_cons pe_w pa_nil hs2) hs) hs hpl hz) (ha p H σ _ g o fun H1 x dx g1 r1 q1 => hb p H1 σ _ (g.go g1) (o.go g g1) fun H2 y dy g2 r2 q2 => by
    subst q1 q2
    obtain ⟨a1, xs, e1, t1, s1⟩ := Rp.src b1 (r1.mono g2.mono)
    obtain ⟨a2, ys, e2, t2, s2⟩ := Rp.src b2 r2
    subst e1 e2
    refine ⟨a1, a2, xs, ys, rfl, t1.sq b1, t2.sq b2, k _ H2 _ (g1.trans g2) rfl ⟨fun p' H' m g' => ?_⟩⟩
    have t1' := t1.mono b1 m
    have t2' := t2.mono b2 m
    have s1' := s1.mono m
    have s2' := s2.mono m
    have hl : (enumZipD ds fs).length = min xs.length ys.length := by
      unfold enumZipD
      rw [List.length_map, List.length_zipIdx, List.length_zip, s1.length, s2.length]
    refine ⟨fun i hi => ⟨⟨t1'.sq b1, t2'.sq b2⟩, by rw [← hl]; exact hi⟩, ⟨⟨t1'.sq b1, t2'.sq b2⟩, hl.symm⟩, fun i v H2' hi y => ?_⟩
    obtain ⟨Ta, Tb, x, y, ev, hTb, hTa, hne, eH, hx, hy⟩ := y
    subst ev eH
    obtain ⟨d1, e1, r1'⟩ := s1'.get' hx
    obtain ⟨d2, e2, r2'⟩ := s2'.get' hy
    have g2 : Gr0 p' H' (upd H' Tb (.tup [x, y])) := gr_new hTb
    have hTa' : upd H' Tb (.tup [x, y]) Ta = none := by rw [upd_ne hne]; exact hTa
    refine ⟨g2.trans (gr_new hTa'), .tuple [.int (i : Int), .tuple [d1, d2]], ?_, rp_newT (g'.go g2) hTa' (.cons (.int _) (.cons (rp_newT g' hTb (.cons r1' (.cons r2' .nil))) .nil))⟩
    unfold enumZipD
    rw [List.getElem?_map, List.getElem?_zipIdx, zip_at e1 e2]
    simp)
end
end DL
end
section
set_option Elab.async false
set_option linter.all false
set_option autoImplicit false
set_option maxRecDepth 100000
set_option maxHeartbeats 2000000
/-! The defs: books, clocks, ticks asked. -/
namespace DL
open PySem PySem.Spec L2
open PyProof.Rows hiding St
open MA

theorem depth2_of {k : Nat} {A : Around} (hr : Room k A) : A.depth + 1 + 1 < recursionLimit := by
  have := hr.dp
  omega
theorem ft {α : Type} {l : List α} : l.filter (fun _ => true) = l := List.filter_eq_self.mpr fun _ _ => rfl
theorem sz {n : Nat} (h : n ≤ 1000000) : n ≤ sizeLine := Nat.le_trans h (by decide)
section
variable {T : Addr → Prop} {P : Program} {w : World} {K : PySem.W.Frag} {mg : Str → Option Value} {base : Heap}
open LHead
def spBk : SpP := fun as S => ∃ (l : List (Int × Int × Int × Int)) (eds : List Int), as = [.dat (.tuple (l.map dT4)), .dat (dI eds)] ∧ BkOk eds l ∧ eds.length ≤ 12 ∧ l.length ≤ 1000 ∧ S (.bool true)
def dK3 (b : Int × Int × Int × Int) : D := .tuple [.int b.1, .int b.2.1, .int b.2.2.1]
theorem fn_book (W : Wd T K mg base) : Fn T P w K mg base 3 "is_book" spBk [] := by
  have hN : (["value", "editions", "entry"] : List Str).Nodup := by decide +kernel
  obtain ⟨fd, hm, F⟩ := (W.dv 6 _ rfl).ex
  obtain ⟨fd5, hm5, F5⟩ := (W.dv 5 _ rfl).ex
  obtain ⟨hT, hB⟩ := W.tb 3 _ rfl
  refine Fn.makeC (d := d_is_book) (N := ["value", "editions", "entry"]) (ps := ["value", "editions"]) F hm ⟨rfl, rfl, rfl, by decide +kernel, rfl, by decide +kernel, by decide +kernel⟩ ?_ (fun _ _ _ _ _ _ us hl => match us, hl with | [_, _], _ => rfl) ?_
  · rintro as S ⟨l, eds, rfl, _⟩
    exact ⟨rfl, by simp [Ent.isOwn]⟩
  · rintro A outer s H E hr as S ⟨l, eds, rfl, ok, h12, hl, hS⟩
    refine ex_no _ (Wv.tv (wv_or (tv_notb (tv_b (ev_isi (d := .tuple (l.map dT4)) (z := true) W.g.isi W.g.tuple boot_tuple (ev_nm 0) k_tt))) fun _ => wv_or1 (tv_notb (tv_b (ev_gen1 (ds := l.map dT4) (tr := fun _ => true) true false hr rfl W.g.all hT hB rfl (genS_of rfl rfl (by decide +kernel) rfl rfl (by decide +kernel)) (ev_nm 0) (plain_map dT4_plain) ?_ rfl))))) (by rw [aa_true]; rfl) ?_
    · intro i d env m h v hd hs L cap hmv rv
      obtain ⟨b, hb, rfl⟩ := List.mem_map.mp (List.mem_of_getElem? hd)
      obtain ⟨c, u, hc, hcell, hu⟩ := cap 1 _ _ rfl rfl (by decide +kernel) rfl (dI_plain eds)
      exact le_call (lc_entry W (depth2_of hr) ok h12 hb) L hm5 F5.kp ((la_cons (le_nm L hmv rv (kd_of hs rfl)) (la_cons (le_fr L hc hcell hu (kd_of hs rfl)) la_nil)).imp fun vs h' q => args2 q) (kd_of hs rfl)
    · refine ex_ret (ev_callD (fn_rising W) hr (ar_cons (ev_tupL W.g.tuple (Ev.r (ev_lc (own := [("entry", 2)]) (enc := dT4) (L := l) (c := fun _ => true) (f := dK3) rfl hN (blkOk_by (by kernel_rfl)) (wk_tup (ev_nm 0)) (sz (by omega)) fun b hb => ⟨[.dat (.tuple (l.map dT4)), .dat (dI eds), .dat (dT4 b)], fun s H c' cl fp => ⟨bd_nm 2 hN, tvs_nil, fun _ => ev_upto (ds := [.int b.1, .int b.2.1, .int b.2.2.1, .int b.2.2.2]) (n := 3) (ev_nm 2)⟩⟩))) ar_nil) ⟨_, rfl, ?_, ?_, hS⟩)
      · exact plain_map fun _ => rfl
      · rw [ft]
        refine up_at (R := fun a b => lex3 (key3 a) (key3 b)) (List.pairwise_map.mp ok.up) fun a b h => ?_
        exact LtD.tup (a := [a.1, a.2.1, a.2.2.1]) (b := [b.1, b.2.1, b.2.2.1]) (lex3_lt h)
def spClk : SpP := fun as S => ∃ c : Clk, as = [.dat (dC c)] ∧ c.Ok ∧ c.bk.length ≤ 1000 ∧ S .none
theorem fn_clock (W : Wd T K mg base) : Fn T P w K mg base 4 "need_clock" spClk [] := by
  have hN : (["value", "period", "editions", "touches", "gaps", "book"] : List Str).Nodup := by decide +kernel
  obtain ⟨fd, hm, F⟩ := (W.dv 7 _ rfl).ex
  obtain ⟨tp, hp⟩ := W.g.period
  refine Fn.make (N := ["value", "period", "editions", "touches", "gaps", "book"]) (ps := ["value"]) F hm ⟨rfl, rfl, rfl, by decide +kernel, rfl, by decide +kernel, by decide +kernel⟩ ?_ (fun _ _ _ _ _ _ us hl => match us, hl with | [_], _ => rfl) ?_
  · rintro as S ⟨l, rfl, _⟩
    exact ⟨rfl, by simp [Ent.isOwn]⟩
  · rintro cdv A outer s H E hr as S ⟨c, rfl, ok, hl, hS⟩
    have h12 := ok.eds.few
    have lm : (c.eds.map PyData.int).length = c.eds.length := List.length_map _
    refine ex_no _ (Wv.tv (wv_or (tv_notb (tv_b (ev_isi (d := dC c) (z := true) W.g.isi W.g.tuple boot_tuple (ev_nm 0) k_tt))) fun _ => wv_or1 (Cv.tvb (cv_ne (ev_lenT (ds := [.int c.p, dI c.eds, .tuple (c.tch.map dT3), .tuple (c.gps.map dI), .tuple (c.bk.map dT4)]) W.g.len (ev_nm 0).r) ev_int) rfl))) rfl ?_
    refine ex_asg (vs := [1, 2, 3, 4, 5]) (d := dC c) (ev_nm 0) (bd_tup rfl (Bds.cons rfl (bd_nm 1 hN) (Bds.cons rfl (bd_nm 2 hN) (Bds.cons rfl (bd_nm 3 hN) (Bds.cons rfl (bd_nm 4 hN) (Bds.cons rfl (bd_nm 5 hN) .nil)))))) ?_
    refine ex_no _ (tv_notb (tv_b (ev_num (fn_number W) (hr.mono (by decide)) (ev_nm 1) ev_int (ev_globI hp)))) (by have := ok.p1; have := ok.p2; simp; omega) ?_
    refine ex_no _ (tv_notb (tv_b (ev_callD (fn_editions W) (hr.mono (by decide)) (ar_cons (ev_nm 2) ar_nil) ⟨_, rfl, ok.eds, rfl⟩))) rfl ?_
    refine ex_no _ (tv_notb (tv_b (ev_callD (fn_touches W) hr (ar_cons (ev_nm 3) (ar_cons (ev_nm 1) (ar_cons (ev_lenT (ds := c.eds.map .int) W.g.len (ev_nm 2).r) ar_nil))) ⟨c.tch, c.p, c.eds.length, by rw [lm] <;> rfl, ok.tch, rfl⟩))) rfl ?_
    refine ex_no _ (tv_notb (tv_b (ev_callD (fn_gaps W) hr (ar_cons (ev_nm 4) (ar_cons (ev_nm 1) (ar_cons (ev_nm 2) ar_nil))) ⟨c.gps, c.p, c.eds, rfl, ok.gps, rfl⟩))) rfl ?_
    refine ex_no _ (tv_notb (tv_b (ev_callD (fn_book W) hr (ar_cons (ev_nm 5) (ar_cons (ev_nm 2) ar_nil)) ⟨c.bk, c.eds, rfl, ok.bk, h12, hl, rfl⟩))) rfl ?_
    exact ex_nil hS
end
end DL
end
section
set_option Elab.async false
set_option linter.all false
set_option autoImplicit false
set_option maxRecDepth 100000
set_option maxHeartbeats 2000000
/-! The defs: ticks asked, exchanges, books and touches read. -/
namespace DL
open PySem PySem.Spec L2
open PyProof.Rows hiding St
open MA

theorem enumD_map {α : Type} {f : α → D} {l : List α} : enumD (l.map f) = l.zipIdx.map fun q => .tuple [.int (q.2 : Int), f q.1] := by
  unfold enumD
  rw [List.zipIdx_map, List.map_map]
  rfl
theorem rngL_map (a b : Int) : rngL a (b - a).toNat = (rngI a b).map .int := by
  unfold rngL rngI
  rw [List.map_map]
  rfl
def d2 (x : Int × Int) : D := .tuple [.int x.1, .int x.2]
section
variable {T : Addr → Prop} {P : Program} {w : World} {K : PySem.W.Frag} {mg : Str → Option Value} {base : Heap}
open LHead
def spTick : SpP := fun as S => ∃ t : Int, as = [.dat (.int t), .dat (.int 0), .dat (.int (10 ^ 30))] ∧ 0 ≤ t ∧ t ≤ 10 ^ 30 ∧ S .none
theorem fn_tick (W : Wd T K mg base) : Fn T P w K mg base 2 "need_tick" spTick [.dat (.int 0), .dat (.int (10 ^ 30))] := by
  obtain ⟨fd, hm, F⟩ := (W.dv 8 _ rfl).ex
  refine Fn.makeD (N := ["value", "low", "high"]) (ps := ["value", "low", "high"]) 1 0 F hm ⟨rfl, rfl, rfl, by decide +kernel, rfl, by decide +kernel, by decide +kernel⟩ ?_ (by show [V.int 0, V.int (10 ^ 30)] ≠ []; exact List.cons_ne_nil _ _) rfl ?_ ?_ ?_
  · rintro as S ⟨l, rfl, _⟩
    exact ⟨rfl, by simp [Ent.isOwn]⟩
  · intro p H g
    exact .cons ⟨_, rfl, .int 0⟩ (.cons ⟨_, rfl, .int _⟩ .nil)
  · intro Ta kV doc pm an cdv ct us its h1 h2
    match us, its, h1, h2 with
    | [_], [_, _], _, _ => exact ⟨_, rfl, rfl⟩
  · rintro cdv A outer s H E hr as S ⟨t, rfl, h1, h2, hS⟩
    refine ex_no _ (tv_notb (tv_b (ev_num (fn_number W) hr (ev_nm 0) (ev_nm 1) (ev_nm 2)))) (by rw [decide_eq_true h1, decide_eq_true h2]; rfl) (ex_nil hS)
def spEvery : SpP := fun as S => ∃ c : Clk, as = [.dat (dC c)] ∧ c.eds.length ≤ 12 ∧ (∀ e ∈ c.eds, 0 ≤ e ∧ e ≤ 4) ∧ S (.list ((everyEx c.eds).map d2))
theorem len_flat {α β : Type} {f : α → List β} {k : Nat} : ∀ {l : List α}, (∀ x ∈ l, (f x).length ≤ k) → (l.flatMap f).length ≤ l.length * k
  | [], _ => by simp
  | x :: l, h => by
    rw [List.flatMap_cons, List.length_append, List.length_cons, Nat.succ_mul]
    have h1 := h x List.mem_cons_self
    have h2 := len_flat (l := l) (f := f) (k := k) fun y hy => h y (List.mem_cons_of_mem _ hy)
    omega
theorem fn_every (W : Wd T K mg base) : Fn T P w K mg base 1 "every_exchange" spEvery [] := by
  have hN : (["clock", "wheel", "last", "edition"] : List Str).Nodup := by decide +kernel
  obtain ⟨fd, hm, F⟩ := (W.dv 9 _ rfl).ex
  refine Fn.make (N := ["clock", "wheel", "last", "edition"]) (ps := ["clock"]) F hm ⟨rfl, rfl, rfl, by decide +kernel, rfl, by decide +kernel, by decide +kernel⟩ ?_ (fun _ _ _ _ _ _ us hl => match us, hl with | [_], _ => rfl) ?_
  · rintro as S ⟨l, rfl, _⟩
    exact ⟨rfl, by simp [Ent.isOwn]⟩
  · rintro cdv A outer s H E hr as S ⟨c, rfl, h12, hnum, hS⟩
    refine ex_ret (Ev.imp (ev_lc2 (own := [("wheel", 1), ("last", 2), ("edition", 3)]) (vs1 := [3]) (L := c.eds.zipIdx) (M := fun q => rngI 1 (q.1 + 1)) (enc := fun q => .tuple [.int (q.2 : Int), .int q.1]) (enc1 := .int) (f := fun q e => .tuple [.int (q.2 : Int), .int e]) rfl hN (blkOk_by (by kernel_rfl)) (by decide) (by rw [← enumD_map]; exact wk_enum false W.g.enum (ev_ixT (ev_nm 0).r ev_int rfl)) ?_ ?_) fun d e => ?_)
    · have : (c.eds.zipIdx.flatMap fun q => (rngI 1 (q.1 + 1)).map fun e => (PyData.tuple [.int (q.2 : Int), .int e])).length ≤ c.eds.zipIdx.length * 4 := len_flat fun q hq => by
        rw [List.length_map]
        unfold rngI
        rw [List.length_map, List.length_range]
        have h1 := List.mem_zipIdx_iff_getElem?.mp hq
        have := hnum q.1 (List.mem_of_getElem? h1)
        omega
      rw [List.length_zipIdx] at this
      exact Nat.lt_of_le_of_lt (Nat.le_trans this (by omega : _ ≤ 48)) (by decide)
    · rintro ⟨l, i⟩ hq
      have h1 := List.mem_zipIdx_iff_getElem?.mp hq
      have hn := hnum l (List.mem_of_getElem? h1)
      refine ⟨[.dat (dC c), .dat (.int (i : Int)), .dat (.int l), .unk], fun s H c' cl fp => ⟨bd_tup rfl (Bds.cons rfl (bd_nm 1 hN) (Bds.cons rfl (bd_nm 2 hN) .nil)), by rw [← rngL_map]; exact wk_rng2 W.g.range ev_int (ev_add (ev_nm 2) ev_int) (by omega)⟩, fun e he => ⟨[.dat (dC c), .dat (.int (i : Int)), .dat (.int l), .dat (.int e)], fun s H c' cl fp => ⟨bd_nm 3 hN, ev_tup (evs_cons (ev_nm 1) (evs_cons (ev_nm 3) evs_nil))⟩⟩⟩
    · rw [← e]
      have : (c.eds.zipIdx.flatMap fun q => (rngI 1 (q.1 + 1)).map fun e => (PyData.tuple [.int (q.2 : Int), .int e])) = (everyEx c.eds).map d2 := by
        unfold everyEx
        rw [List.map_flatMap]
        congr 1
        funext q
        rw [List.map_map]
        rfl
      rw [this]
      exact hS
end
end DL
end
section
set_option Elab.async false
set_option linter.all false
set_option autoImplicit false
set_option maxRecDepth 100000
set_option maxHeartbeats 2000000
/-! The defs: what is needed, the phases, plans. -/
namespace DL
open PySem PySem.Spec L2
open PyProof.Rows hiding St
open MA

section
variable {T : Addr → Prop} {P : Program} {w : World} {K : PySem.W.Frag} {mg : Str → Option Value} {base : Heap}
open LHead
theorem maxL_I (l : List Int) : maxL l = maxI l := by
  cases l <;> rfl
def spLeast : SpP := fun as S => ∃ (c : Clk) (v e o : Int), as = [.dat (dC c), .dat (.int v), .dat (.int e), .dat (.int o)] ∧ c.bk.length ≤ 1000 ∧ S (.int (leastN c v e o))
theorem fn_least (W : Wd T K mg base) : Fn T P w K mg base 1 "least_needed" spLeast [] := by
  have hN : (["clock", "wheel", "edition", "other", "entries", "entry"] : List Str).Nodup := by decide +kernel
  obtain ⟨fd, hm, F⟩ := (W.dv 10 _ rfl).ex
  refine Fn.make (N := ["clock", "wheel", "edition", "other", "entries", "entry"]) (ps := ["clock", "wheel", "edition", "other"]) F hm ⟨rfl, rfl, rfl, by decide +kernel, rfl, by decide +kernel, by decide +kernel⟩ ?_ (fun _ _ _ _ _ _ us hl => match us, hl with | [_, _, _, _], _ => rfl) ?_
  · rintro as S ⟨l, v, e, o, rfl, _⟩
    exact ⟨rfl, by simp [Ent.isOwn]⟩
  · rintro cdv A outer s H E hr as S ⟨c, v, e, o, rfl, hl, hS⟩
    refine ex_setLcD 4 (own := [("entry", 5)]) (enc := dT4) (L := c.bk) (cf := fun b => decide (b.1 = v) && decide (b.2.2.1 = o)) (f := dT4) hN rfl (blkOk_by (by kernel_rfl)) (wk_tup (ev_ixT (ev_nm 0).r ev_int rfl)) (sz (by omega)) (fun b hb => ⟨[.dat (dC c), .dat (.int v), .dat (.int e), .dat (.int o), .unk, .dat (dT4 b)], fun s H c' cl fp => ⟨bd_nm 5 hN, tvs_one (Wv.tv (wv_and (Cv.tvb (cv_eq (ev_ixT (ev_nm 5).r ev_int rfl) (ev_nm 1)) rfl) fun _ => wv_and1 (Cv.tvb (cv_eq (ev_ixT (ev_nm 5).r ev_int rfl) (ev_nm 3)) rfl))), fun _ => ev_nm 5⟩⟩) ?_
    refine ex_ret (Ev.imp (ev_maxL (ns := 0 :: ((c.bk.filter fun b => decide (b.1 = v) && decide (b.2.2.1 = o)).filter fun b => decide (b.2.1 ≤ e)).map (·.2.2.2)) rfl W.g.max (Ev.r (Ev.imp (ev_catL (ds := [.int 0]) (Ev.r (ev_lst (evs_cons ev_int evs_nil))) (Ev.r (ev_lc (own := [("entry", 5)]) (enc := dT4) (L := c.bk.filter fun b => decide (b.1 = v) && decide (b.2.2.1 = o)) (c := fun b => decide (b.2.1 ≤ e)) (f := fun b => .int b.2.2.2) rfl hN (blkOk_by (by kernel_rfl)) (wk_lst (ev_nm 4)) ?_ fun b hb => ⟨[.dat (dC c), .dat (.int v), .dat (.int e), .dat (.int o), .dat (.list ((c.bk.filter fun b => decide (b.1 = v) && decide (b.2.2.1 = o)).map dT4)), .dat (dT4 b)], fun s H c' cl fp => ⟨bd_nm 5 hN, tvs_one (Cv.tvb (cv_le (ev_ixT (ev_nm 5).r ev_int rfl) (ev_nm 2)) rfl), fun _ => ev_ixT (ev_nm 5).r ev_int rfl⟩⟩)) ?_) fun d q => ?_)) (List.cons_ne_nil _ _)) fun d q => ?_)
    · have := List.length_filter_le (fun b : Int × Int × Int × Int => decide (b.1 = v) && decide (b.2.2.1 = o)) c.bk
      exact sz (by omega)
    · rw [List.length_map]
      have h1 := List.length_filter_le (fun b : Int × Int × Int × Int => decide (b.1 = v) && decide (b.2.2.1 = o)) c.bk
      have h2 := List.length_filter_le (fun b : Int × Int × Int × Int => decide (b.2.1 ≤ e)) (c.bk.filter fun b => decide (b.1 = v) && decide (b.2.2.1 = o))
      show 1 + _ ≤ sizeLine
      exact sz (by omega)
    · rw [← q, List.map_cons, List.map_map]
      rfl
    · rw [← q, maxL_I]
      exact hS
def spPhases : SpP := fun as S => ∃ (c : Clk) (a b : Int), as = [.dat (dC c), .dat (.int a), .dat (.int b)] ∧ c.tch.length ≤ 1000 ∧ S (.list ((phases c a b).map .int))
theorem fn_phases (W : Wd T K mg base) : Fn T P w K mg base 1 "phases_of" spPhases [] := by
  have hN : (["clock", "one", "other", "pair", "touch"] : List Str).Nodup := by decide +kernel
  obtain ⟨fd, hm, F⟩ := (W.dv 11 _ rfl).ex
  refine Fn.make (N := ["clock", "one", "other", "pair", "touch"]) (ps := ["clock", "one", "other"]) F hm ⟨rfl, rfl, rfl, by decide +kernel, rfl, by decide +kernel, by decide +kernel⟩ ?_ (fun _ _ _ _ _ _ us hl => match us, hl with | [_, _, _], _ => rfl) ?_
  · rintro as S ⟨l, a, b, rfl, _⟩
    exact ⟨rfl, by simp [Ent.isOwn]⟩
  · rintro cdv A outer s H E hr as S ⟨c, a, b, rfl, hl, hS⟩
    refine ex_setD 3 hN (ev_tup (evs_cons (ev_min2 rfl W.g.min (ev_nm 1) (ev_nm 2)) (evs_cons (ev_max2 rfl W.g.max (ev_nm 1) (ev_nm 2)) evs_nil))) ?_
    refine ex_ret (Ev.imp (ev_lc (own := [("touch", 4)]) (enc := dT3) (L := c.tch) (c := fun t => decide (t.2 = (min a b, max a b))) (f := fun t => .int t.1) rfl hN (blkOk_by (by kernel_rfl)) (wk_tup (ev_ixT (ev_nm 0).r ev_int rfl)) (sz (by omega)) fun t ht => ⟨[.dat (dC c), .dat (.int a), .dat (.int b), .dat (.tuple [.int (min a b), .int (max a b)]), .dat (dT3 t)], fun s H c' cl fp => ⟨bd_nm 4 hN, tvs_one ?_, fun _ => ev_ixT (ev_nm 4).r ev_int rfl⟩⟩) fun d q => ?_)
    · refine Tv.imp (Cv.tvb (cv_eqD (dx := .tuple [.int t.2.1, .int t.2.2]) (dy := .tuple [.int (min a b), .int (max a b)]) (n := 1) hr (Ev.r (ev_from (ds := [.int t.1, .int t.2.1, .int t.2.2]) (n := 1) (ev_nm 4))) (Ev.r (ev_nm 3)) rfl rfl) rfl) fun z e => ?_
      rw [← e]
      refine (eqv_dec rfl rfl ?_).symm
      rw [decide_eq_true_iff]
      constructor
      · intro q
        rw [q]
      · intro q
        injection q with q
        injection q with q1 q2
        injection q2 with q2 _
        injection q1 with q1
        injection q2 with q2
        exact Prod.ext q1 q2
    · rw [← q]
      unfold phases at hS
      rw [List.map_map] at hS
      exact hS
end
end DL
end
section
set_option Elab.async false
set_option linter.all false
set_option autoImplicit false
set_option maxRecDepth 100000
set_option maxHeartbeats 2000000
/-! Plain functions: gaps, touches, pushes. -/
namespace MA
/-- the first at or behind t, within n -/
def nxt (P : Int → Bool) : Nat → Int → Int
  | 0, t => t
  | n + 1, t => if P t = true then t else nxt P n (t + 1)
/-- the last at or before t, within n -/
def prv (P : Int → Bool) : Nat → Int → Int
  | 0, t => t
  | n + 1, t => if P t = true then t else prv P n (t - 1)
theorem nxt_hit {P : Int → Bool} : ∀ {n : Nat} {t : Int}, P t = true → nxt P n t = t
  | 0, _, _ => rfl
  | n + 1, t, h => by rw [nxt, if_pos h]
theorem prv_hit {P : Int → Bool} : ∀ {n : Nat} {t : Int}, P t = true → prv P n t = t
  | 0, _, _ => rfl
  | n + 1, t, h => by rw [prv, if_pos h]
theorem nxt_spec {P : Int → Bool} : ∀ {n : Nat} {t : Int}, (∃ s, t ≤ s ∧ s < t + n ∧ P s = true) → t ≤ nxt P n t ∧ nxt P n t < t + n ∧ P (nxt P n t) = true ∧ ∀ s, t ≤ s → s < nxt P n t → P s = false
  | 0, t, ⟨s, h1, h2, _⟩ => by simp at h2; omega
  | n + 1, t, ⟨s, h1, h2, h3⟩ => by
    rw [nxt]
    by_cases h : P t = true
    · rw [if_pos h]
      exact ⟨Int.le_refl _, by omega, h, fun s a b => by omega⟩
    · rw [if_neg h]
      have ne : s ≠ t := fun z => h (by rw [← z]; exact h3)
      obtain ⟨a, b, c, d⟩ := nxt_spec (P := P) (n := n) (t := t + 1) ⟨s, by omega, by omega, h3⟩
      refine ⟨by omega, by omega, c, fun s' x y => ?_⟩
      by_cases e : s' = t
      · rw [e]
        exact Bool.eq_false_iff.mpr h
      · exact d s' (by omega) y
theorem prv_spec {P : Int → Bool} : ∀ {n : Nat} {t : Int}, (∃ s, s ≤ t ∧ t < s + n ∧ P s = true) → prv P n t ≤ t ∧ t < prv P n t + n ∧ P (prv P n t) = true ∧ ∀ s, s ≤ t → prv P n t < s → P s = false
  | 0, t, ⟨s, h1, h2, _⟩ => by simp at h2; omega
  | n + 1, t, ⟨s, h1, h2, h3⟩ => by
    rw [prv]
    by_cases h : P t = true
    · rw [if_pos h]
      exact ⟨Int.le_refl _, by omega, h, fun s a b => by omega⟩
    · rw [if_neg h]
      have ne : s ≠ t := fun z => h (by rw [← z]; exact h3)
      obtain ⟨a, b, c, d⟩ := prv_spec (P := P) (n := n) (t := t - 1) ⟨s, by omega, by omega, h3⟩
      refine ⟨by omega, by omega, c, fun s' x y => ?_⟩
      by_cases e : s' = t
      · rw [e]
        exact Bool.eq_false_iff.mpr h
      · exact d s' (by omega) y
/-- a residue is met within a period -/
theorem hit_up {p g t : Int} (hp : 0 < p) (h0 : 0 ≤ g) (h1 : g < p) : ∃ s, t ≤ s ∧ s < t + p ∧ s % p = g := by
  refine ⟨t + (g - t) % p, ?_, ?_, ?_⟩
  · have := Int.emod_nonneg (g - t) (by omega : p ≠ 0)
    omega
  · have := Int.emod_lt_of_pos (g - t) hp
    omega
  · rw [Int.add_emod, Int.emod_emod_of_dvd _ (Int.dvd_refl p), ← Int.add_emod, show t + (g - t) = g by omega]
    exact Int.emod_eq_of_lt h0 h1
theorem hit_down {p g t : Int} (hp : 0 < p) (h0 : 0 ≤ g) (h1 : g < p) : ∃ s, s ≤ t ∧ t < s + p ∧ s % p = g := by
  obtain ⟨s, a, b, c⟩ := hit_up (t := t - p + 1) hp h0 h1
  exact ⟨s, by omega, by omega, c⟩
def inGap (c : Clk) (w : Int) (s : Int) : Bool := decide (s % c.p ∈ gL c.gps w)
def atTouch (c : Clk) (a b : Int) (s : Int) : Bool := decide (s % c.p ∈ phases c a b)
def gapFrom (c : Clk) (w t : Int) : Int := nxt (inGap c w) c.p.toNat t
def gapTo (c : Clk) (w t : Int) : Int := prv (inGap c w) c.p.toNat t
def aboveT (c : Clk) (a b t : Int) : Int := prv (fun s => atTouch c a b (s - 1)) c.p.toNat t
def pushF (c : Clk) (x y : Int × Int) (t : Int) : Int := if x.1 = y.1 then gapFrom c x.1 (t + 1) else gapFrom c x.1 (aboveT c x.1 y.1 t)
def le2 (p q : Int × Int) : Bool := decide (p.1 < q.1 ∨ (p.1 = q.1 ∧ p.2 ≤ q.2))
def need1 (c : Clk) (x : Int × Int) (o : Int) : Option (Int × Int) := if o ≠ x.1 ∧ phases c x.1 o ≠ [] ∧ 0 < leastN c x.1 x.2 o then some (o, leastN c x.1 x.2 o) else none
def needs0 (c : Clk) (x : Int × Int) : List (Int × Int) := (if 1 < x.2 then [(x.1, x.2 - 1)] else []) ++ (rngI 0 c.eds.length).filterMap (need1 c x)
def needsOf (c : Clk) (x : Int × Int) : List (Int × Int) := (needs0 c x).mergeSort le2
def everyLean (c : Clk) : List ((Int × Int) × (Int × Int)) := (everyEx c.eds).flatMap fun x => (needsOf c x).map fun y => (x, y)
/-- a wheel that can go on has gaps -/
theorem Clk.Ok.gap {c : Clk} (ok : c.Ok) {w : Int} (h0 : 0 ≤ w) (h1 : w < c.eds.length) (h2 : 0 < gI c.eds w) : gL c.gps w ≠ [] ∧ ∀ g ∈ gL c.gps w, 0 ≤ g ∧ g < c.p := by
  have hw : w.toNat < c.eds.length := by omega
  have hl := ok.gps.len
  have hg : w.toNat < c.gps.length := by omega
  have e1 : gI c.eds w = c.eds[w.toNat] := by
    unfold gI
    rw [List.getD_eq_getElem?_getD, List.getElem?_eq_getElem hw]
    rfl
  have e2 : gL c.gps w = c.gps[w.toNat] := by
    unfold gL
    rw [List.getD_eq_getElem?_getD, List.getElem?_eq_getElem hg]
    rfl
  rw [e2]
  rw [e1] at h2
  refine ⟨ok.gps.some_ w.toNat _ (List.getElem?_eq_getElem hw) h2 _ (List.getElem?_eq_getElem hg), fun g hm => ?_⟩
  have := ok.gps.num _ (List.getElem_mem hg) g hm
  omega
theorem Clk.Ok.gapHit {c : Clk} (ok : c.Ok) {w : Int} (h0 : 0 ≤ w) (h1 : w < c.eds.length) (h2 : 0 < gI c.eds w) (t : Int) : ∃ s, t ≤ s ∧ s < t + c.p.toNat ∧ inGap c w s = true := by
  obtain ⟨hn, hr⟩ := ok.gap h0 h1 h2
  obtain ⟨g, hg⟩ := List.exists_mem_of_ne_nil _ hn
  obtain ⟨a, b⟩ := hr g hg
  have hp := ok.p1
  obtain ⟨s, s1, s2, s3⟩ := hit_up (t := t) (by omega : 0 < c.p) a b
  exact ⟨s, s1, by omega, decide_eq_true (by rw [s3]; exact hg)⟩
theorem Clk.Ok.gapHitD {c : Clk} (ok : c.Ok) {w : Int} (h0 : 0 ≤ w) (h1 : w < c.eds.length) (h2 : 0 < gI c.eds w) (t : Int) : ∃ s, s ≤ t ∧ t < s + c.p.toNat ∧ inGap c w s = true := by
  obtain ⟨hn, hr⟩ := ok.gap h0 h1 h2
  obtain ⟨g, hg⟩ := List.exists_mem_of_ne_nil _ hn
  obtain ⟨a, b⟩ := hr g hg
  have hp := ok.p1
  obtain ⟨s, s1, s2, s3⟩ := hit_down (t := t) (by omega : 0 < c.p) a b
  exact ⟨s, s1, by omega, decide_eq_true (by rw [s3]; exact hg)⟩
theorem Clk.Ok.phase {c : Clk} (ok : c.Ok) {a b g : Int} (h : g ∈ phases c a b) : 0 ≤ g ∧ g < c.p := by
  unfold phases at h
  obtain ⟨t, ht, rfl⟩ := List.mem_map.mp h
  have := ok.tch.num t (List.mem_filter.mp ht).1
  omega
theorem Clk.Ok.aboveHit {c : Clk} (ok : c.Ok) {a b : Int} (h : phases c a b ≠ []) (t : Int) : ∃ s, s ≤ t ∧ t < s + c.p.toNat ∧ atTouch c a b (s - 1) = true := by
  obtain ⟨g, hg⟩ := List.exists_mem_of_ne_nil _ h
  obtain ⟨x, y⟩ := ok.phase hg
  have hp := ok.p1
  obtain ⟨s, s1, s2, s3⟩ := hit_down (t := t - 1) (by omega : 0 < c.p) x y
  exact ⟨s + 1, by omega, by omega, decide_eq_true (by rw [show s + 1 - 1 = s by omega, s3]; exact hg)⟩
end MA
end
section
set_option Elab.async false
set_option linter.all false
set_option autoImplicit false
set_option maxRecDepth 100000
set_option maxHeartbeats 2000000
/-! The defs: plans, needs, gaps, touches. -/
namespace DL
open PySem PySem.Spec L2
open PyProof.Rows hiding St
open MA

section
variable {T : Addr → Prop} {X : Cx} {es : List Ent} {a b c : Expr} {l : List Expr} {pos : Pos} {f : Ent}
theorem evn_ifT (hc : Tv T X es c (Eq true)) (h : EvN T X es a f) : EvN T X es (.IfExp c a b pos) f := fun p H σ Q g o k =>
  wE_of (pe_ifExp pt_w pe_w pe_w) (hc p H σ _ g o fun H1 z g1 q1 => by
    subst q1
    exact iteT (h p H1 σ _ (g.go g1) (o.go g g1) fun p' H' v s ho fr => k p' H' v ((StepN.of_gr g g1).trans s) ho fun hf => by
      obtain ⟨q, e, n⟩ := fr hf
      refine ⟨q, e, ?_⟩
      cases hq : H q with
      | none => rfl
      | some x =>
        obtain ⟨y, e', _⟩ := g1 q x hq (fun z => z)
        rw [n] at e'
        cases e'))
theorem evn_ifF (hc : Tv T X es c (Eq false)) (h : EvN T X es b f) : EvN T X es (.IfExp c a b pos) f := fun p H σ Q g o k =>
  wE_of (pe_ifExp pt_w pe_w pe_w) (hc p H σ _ g o fun H1 z g1 q1 => by
    subst q1
    exact iteF (h p H1 σ _ (g.go g1) (o.go g g1) fun p' H' v s ho fr => k p' H' v ((StepN.of_gr g g1).trans s) ho fun hf => by
      obtain ⟨q, e, n⟩ := fr hf
      refine ⟨q, e, ?_⟩
      cases hq : H q with
      | none => rfl
      | some x =>
        obtain ⟨y, e', _⟩ := g1 q x hq (fun z => z)
        rw [n] at e'
        cases e'))
/-- a new list of one's own, with items -/
theorem evn_lst {ds : List D} (h : Evs T X es l (Eq ds)) (hl : ds.length ≤ sizeLine := by exact Nat.le_of_ble_eq_true rfl) : EvN T X es (.List l pos) (.lst ds) := fun p H σ Q g o k =>
  wE_of (pe_lst pa_w) (h p H σ _ g o fun H1 vs ds' g1 r1 q1 => ⟨by rw [r1.length, ← q1]; exact hl, fun q hq => by
    subst q1
    have G1 := g.go g1
    refine k (p.plus q) _ _ ((StepN.of_gr g g1).trans (stepN_new G1 hq)) ⟨q, vs, rfl, .inr rfl, upd_same, r1.mono (stepN_new (x := .lst vs) G1 hq).st.mono⟩ fun _ => ⟨q, rfl, ?_⟩
    cases hq' : H q with
    | none => rfl
    | some x =>
      obtain ⟨y, e', _⟩ := g1 q x hq' (fun z => z)
      rw [hq] at e'
      cases e'⟩)
end
section
variable {T : Addr → Prop} {P : Program} {w : World} {K : PySem.W.Frag} {mg : Str → Option Value} {base : Heap}
open LHead
def spPlan : SpP := fun as S => ∃ (c : Clk) (kvs : KD) (x : Int × Int → Int), as = [.dat (dC c), .dat (dicD kvs)] ∧ c.eds.length ≤ 12 ∧ (∀ e ∈ c.eds, 0 ≤ e ∧ e ≤ 4) ∧ (∀ q ∈ everyEx c.eds, lkD kvs [q.1, q.2] = some (x q)) ∧ S (.tuple ((planX c.eds x).map dI))
theorem fn_plan (W : Wd T K mg base) : Fn T P w K mg base 1 "plan_of" spPlan [] := by
  have hN : (["clock", "ticks", "wheel", "last", "at"] : List Str).Nodup := by decide +kernel
  obtain ⟨fd, hm, F⟩ := (W.dv 12 _ rfl).ex
  refine Fn.make (N := ["clock", "ticks", "wheel", "last", "at"]) (ps := ["clock", "ticks"]) F hm ⟨rfl, rfl, rfl, by decide +kernel, rfl, by decide +kernel, by decide +kernel⟩ ?_ (fun _ _ _ _ _ _ us hl => match us, hl with | [_, _], _ => rfl) ?_
  · rintro as S ⟨c, kvs, x, rfl, _⟩
    exact ⟨rfl, by simp [Ent.isOwn]⟩
  · rintro cdv A outer s H E hr as S ⟨c, kvs, x, rfl, h12, hnum, hlk, hS⟩
    refine ex_ret (Ev.imp (ev_tupL W.g.tuple (Ev.r (ev_lc (own := [("wheel", 2), ("last", 3)]) (L := c.eds.zipIdx) (enc := fun q => .tuple [.int (q.2 : Int), .int q.1]) (c := fun _ => true) (f := fun q => dI ((List.range q.1.toNat).map fun (i : Nat) => x ((q.2 : Int), (i : Int) + 1))) rfl hN (blkOk_by (by kernel_rfl)) (by rw [← enumD_map]; exact wk_enum false W.g.enum (ev_ixT (ev_nm 0).r ev_int rfl)) (sz (by rw [List.length_zipIdx]; omega)) ?_))) fun d e => ?_)
    · rintro ⟨l, i⟩ hq
      have h1 := List.mem_zipIdx_iff_getElem?.mp hq
      have h1' : c.eds[i]? = some l := h1
      have hn := hnum l (List.mem_of_getElem? h1')
      obtain ⟨hi, _⟩ := List.getElem?_eq_some_iff.mp h1'
      refine ⟨[.dat (dC c), .dat (dicD kvs), .dat (.int (i : Int)), .dat (.int l), .unk], fun s H c' cl fp => ⟨bd_tup rfl (Bds.cons rfl (bd_nm 2 hN) (Bds.cons rfl (bd_nm 3 hN) .nil)), tvs_nil, fun _ => ?_⟩⟩
      refine Ev.imp (ev_tupL W.g.tuple (Ev.r (ev_lc (own := [("at", 4)]) (L := List.range l.toNat) (enc := fun (j : Nat) => .int (0 + (j : Int))) (c := fun _ => true) (f := fun (j : Nat) => .int (x ((i : Int), (j : Int) + 1))) rfl hN (blkOk_by (by kernel_rfl)) (wk_rng1 W.g.range (ev_nm 3) (by omega) (by omega)) (sz (by rw [List.length_range]; omega)) ?_))) fun d e => ?_
      · intro j hj
        have hj' := List.mem_range.mp hj
        refine ⟨[.dat (dC c), .dat (dicD kvs), .dat (.int (i : Int)), .dat (.int l), .dat (.int (0 + (j : Int)))], fun s H c' cl fp => ⟨bd_nm 4 hN, tvs_nil, fun _ => ev_dget (k := [(i : Int), 0 + (j : Int) + 1]) hr (Ev.r (ev_nm 1)) (ev_tup (evs_cons (ev_nm 2) (evs_cons (ev_add (ev_nm 4) ev_int) evs_nil))) ?_⟩⟩
        have hx := hlk ((i : Int), (j : Int) + 1) (mem_everyEx.mpr ⟨by simp, by simp; omega, by show (1 : Int) ≤ (j : Int) + 1; omega, by
          show (j : Int) + 1 ≤ gI c.eds (i : Int)
          rw [gI_at h1']
          omega⟩)
        rw [Int.zero_add]
        exact hx
      · rw [← e, ft]
        show PyData.tuple (List.map _ (List.map _ _)) = PyData.tuple (List.map _ _)
        rw [List.map_map]
        rfl
    · rw [← e, ft]
      unfold planX at hS
      rw [List.map_map] at hS
      exact hS
theorem enc_pair (x : Int × Int) : plain (d2 x) = true := rfl
def spNeeds : SpP := fun as S => ∃ (c : Clk) (x : Int × Int), as = [.dat (dC c), .dat (d2 x)] ∧ c.eds.length ≤ 12 ∧ c.tch.length ≤ 1000 ∧ c.bk.length ≤ 1000 ∧ S (.list ((needsOf c x).map d2))
theorem srt2 (l : List (Int × Int)) : l.mergeSort (PySem.W.dataLe false d2) = l.mergeSort le2 := by
  rw [show (PySem.W.dataLe false d2) = le2 from PySem.W.dataLe_ii (fun q : Int × Int => q.1) (fun q => q.2)]
theorem need1_app (c : Clk) (x : Int × Int) (l : List Int) (o : Int) : (l ++ [o]).filterMap (need1 c x) = l.filterMap (need1 c x) ++ (need1 c x o).toList := by
  rw [List.filterMap_append]
  cases h : need1 c x o <;> simp [List.filterMap, h]
theorem rngL0 (n : Int) : rngL 0 n.toNat = (rngI 0 n).map .int := by
  have h := rngL_map 0 n
  rw [Int.sub_zero] at h
  exact h
theorem rngI_len (a b : Int) : (rngI a b).length = (b - a).toNat := by
  unfold rngI
  rw [List.length_map, List.length_range]
theorem fn_needs (W : Wd T K mg base) : Fn T P w K mg base 2 "needs_of" spNeeds [] := by
  have hN : (["clock", "exchange", "wheel", "edition", "found", "other", "least"] : List Str).Nodup := by decide +kernel
  obtain ⟨fd, hm, F⟩ := (W.dv 13 _ rfl).ex
  refine Fn.make (N := ["clock", "exchange", "wheel", "edition", "found", "other", "least"]) (ps := ["clock", "exchange"]) F hm ⟨rfl, rfl, rfl, by decide +kernel, rfl, by decide +kernel, by decide +kernel⟩ ?_ (fun _ _ _ _ _ _ us hl => match us, hl with | [_, _], _ => rfl) ?_
  · rintro as S ⟨c, x, rfl, _⟩
    exact ⟨rfl, by simp [Ent.isOwn]⟩
  · rintro cdv A outer s H E hr as S ⟨c, x, rfl, h12, ht, hb, hS⟩
    have lm : (c.eds.map PyData.int).length = c.eds.length := List.length_map _
    refine ex_asg (vs := [2, 3]) (d := d2 x) (ev_nm 1) (bd_tup rfl (Bds.cons rfl (bd_nm 2 hN) (Bds.cons rfl (bd_nm 3 hN) .nil))) ?_
    refine ex_setN 4 (f := .lst ((if 1 < x.2 then [(x.1, x.2 - 1)] else []).map d2)) hN ?_ ?_
    · by_cases h : 1 < x.2
      · rw [if_pos h]
        exact evn_ifT (Tv.imp (Cv.tvb (cv_gt (ev_nm 3) ev_int) rfl) fun z e => by rw [← e, decide_eq_true h]) (evn_lst (evs_cons (ev_tup (evs_cons (ev_nm 2) (evs_cons (ev_sub (ev_nm 3) ev_int) evs_nil))) evs_nil))
      · rw [if_neg h]
        exact evn_ifF (Tv.imp (Cv.tvb (cv_gt (ev_nm 3) ev_int) rfl) fun z e => by rw [← e, decide_eq_false h]) evn_lst0
    have lB : (if 1 < x.2 then [(x.1, x.2 - 1)] else ([] : List (Int × Int))).length ≤ 1 := by
      split <;> simp
    generalize hB : (if 1 < x.2 then [(x.1, x.2 - 1)] else ([] : List (Int × Int))) = B at lB ⊢
    refine ex_forD [5] (enc := .int) (L := rngI 0 c.eds.length) (fun i e => ∃ y z, e = [.dat (dC c), .dat (d2 x), .dat (.int x.1), .dat (.int x.2), .lst ((B ++ ((rngI 0 c.eds.length).take i).filterMap (need1 c x)).map d2), y, z]) .never rfl ?_ ⟨.unk, .unk, by simp <;> rfl⟩ ?_ ?_
    · rw [← rngL0, ← lm]
      exact wk_rng1 W.g.range (ev_lenT (ds := c.eds.map .int) W.g.len (Ev.r (ev_ixT (ev_nm 0).r ev_int rfl))) (by omega) (by omega)
    · rintro i o es' hi ⟨y, z, rfl⟩
      have lT : ((rngI 0 c.eds.length).take i).length ≤ 12 := by
        rw [List.length_take, rngI_len]
        omega
      have lF := List.length_filterMap_le (need1 c x) ((rngI 0 c.eds.length).take i)
      refine ⟨_, bd_nm 5 hN, ?_⟩
      have nxt_ : ∀ {e : List Ent}, (∃ y z, e = [.dat (dC c), .dat (d2 x), .dat (.int x.1), .dat (.int x.2), .lst ((B ++ (((rngI 0 c.eds.length).take i).filterMap (need1 c x) ++ (need1 c x o).toList)).map d2), y, z]) → ∃ y z, e = [.dat (dC c), .dat (d2 x), .dat (.int x.1), .dat (.int x.2), .lst ((B ++ ((rngI 0 c.eds.length).take (i + 1)).filterMap (need1 c x)).map d2), y, z] := by
        intro e he
        rw [take_snoc hi, need1_app]
        exact he
      refine ex_if (A := Eq (!decide (o = x.1) && !((phases c x.1 o).map PyData.int).isEmpty)) (Wv.tv (wv_and (Cv.tvb (cv_ne (ev_nm 5) (ev_nm 2)) rfl) fun _ => wv_and1 (tv_lst (ds := (phases c x.1 o).map .int) (Ev.r (ev_callD (fn_phases W) (hr.mono (by decide)) (ar_cons (ev_nm 0) (ar_cons (ev_nm 2) (ar_cons (ev_nm 5) ar_nil))) ⟨c, x.1, o, rfl, ht, rfl⟩))))) (fun q => ?_) (fun q => ?_)
      · rw [Bool.and_eq_true, Bool.not_eq_true', Bool.not_eq_true', decide_eq_false_iff_not] at q
        obtain ⟨q1, q2⟩ := q
        have q2' : phases c x.1 o ≠ [] := fun z => by rw [z] at q2; cases q2
        refine ex_setD 6 hN (ev_callD (fn_least W) (hr.mono (by decide)) (ar_cons (ev_nm 0) (ar_cons (ev_nm 2) (ar_cons (ev_nm 3) (ar_cons (ev_nm 5) ar_nil)))) ⟨c, x.1, x.2, o, rfl, hb, rfl⟩) ?_
        refine ex_if (A := Eq (decide (0 < leastN c x.1 x.2 o))) (Cv.tvb (cv_gt (ev_nm 6) ev_int) rfl) (fun q3 => ?_) (fun q3 => ?_)
        · have q3' := of_decide_eq_true q3
          have e1 : need1 c x o = some (o, leastN c x.1 x.2 o) := if_pos ⟨q1, q2', q3'⟩
          refine ex_app 4 rfl rfl (.inl rfl) (ev_tup (evs_cons (ev_nm 5) (evs_cons (ev_nm 6) evs_nil))) (hl := ?_) (ex_nil (ex_nil (ex_nil (nxt_ ⟨.dat (.int o), .dat (.int (leastN c x.1 x.2 o)), ?_⟩))))
          · rw [e1]
            simp [List.set, d2]
          · rw [List.length_map, List.length_append]
            exact Nat.lt_of_le_of_lt (by omega : _ ≤ 13) (by decide)
        · have q3' := of_decide_eq_false q3
          have e1 : need1 c x o = none := if_neg fun z => q3' z.2.2
          exact ex_nil (ex_nil (ex_nil (nxt_ ⟨.dat (.int o), .dat (.int (leastN c x.1 x.2 o)), by rw [e1]; simp [List.set]⟩)))
      · have e1 : need1 c x o = none := if_neg fun z => by
          obtain ⟨z1, z2, _⟩ := z
          rw [decide_eq_false z1] at q
          cases h : phases c x.1 o with
          | nil => exact z2 h
          | cons => rw [h] at q; simp at q
        exact ex_nil (ex_nil (nxt_ ⟨.dat (.int o), z, by rw [e1]; simp [List.set]⟩))
    · rintro es' ⟨y, z, rfl⟩
      rw [List.take_length]
      refine ex_ret (Ev.imp (ev_srt (enc := d2) (bs := B ++ (rngI 0 c.eds.length).filterMap (need1 c x)) hr W.g.sorted (evr_lst 4) enc_pair (fun b => by simp [d2, PyData.depth, PyData.depthAll]) (PySem.W.AllAlike.of fun a b => by simp [d2, PySem.W.alike, PySem.W.alikeAll]) (PySem.W.Sortable.tuples fun b => ⟨_, _, rfl⟩)) fun d e => ?_)
      rw [← e, srt2, ← hB]
      exact hS
end
end DL
end
section
set_option Elab.async false
set_option linter.all false
set_option autoImplicit false
set_option maxRecDepth 100000
set_option maxHeartbeats 2000000
/-! The defs: leans, gaps, touches, pushes. -/
namespace MA
/-- a clock that the program can hold -/
structure Clk.Fit (c : Clk) : Prop where
  ok : c.Ok
  t : c.tch.length ≤ 1000
  b : c.bk.length ≤ 1000
theorem everyEx_len {eds : List Int} (h12 : eds.length ≤ 12) (h : ∀ e ∈ eds, 0 ≤ e ∧ e ≤ 4) : (everyEx eds).length ≤ 48 := by
  have : (everyEx eds).length ≤ eds.zipIdx.length * 4 := DL.len_flat fun q hq => by
    rw [List.length_map, DL.rngI_len]
    have h1 := List.mem_zipIdx_iff_getElem?.mp hq
    have := h q.1 (List.mem_of_getElem? h1)
    omega
  rw [List.length_zipIdx] at this
  omega
theorem needs0_len {c : Clk} {x : Int × Int} (h12 : c.eds.length ≤ 12) : (needs0 c x).length ≤ 13 := by
  unfold needs0
  rw [List.length_append]
  have h1 := List.length_filterMap_le (need1 c x) (rngI 0 c.eds.length)
  rw [DL.rngI_len] at h1
  have : (if 1 < x.2 then [(x.1, x.2 - 1)] else ([] : List (Int × Int))).length ≤ 1 := by split <;> simp
  omega
theorem needsOf_len {c : Clk} {x : Int × Int} (h12 : c.eds.length ≤ 12) : (needsOf c x).length ≤ 13 := by
  unfold needsOf
  rw [List.length_mergeSort]
  exact needs0_len h12
theorem everyLean_len {c : Clk} (h12 : c.eds.length ≤ 12) (h : ∀ e ∈ c.eds, 0 ≤ e ∧ e ≤ 4) : (everyLean c).length ≤ 624 := by
  have : (everyLean c).length ≤ (everyEx c.eds).length * 13 := DL.len_flat fun q hq => by
    rw [List.length_map]
    exact needsOf_len h12
  have := everyEx_len h12 h
  omega
end MA
namespace DL
open PySem PySem.Spec L2
open PyProof.Rows hiding St
open MA
def dLn (x : (Int × Int) × (Int × Int)) : D := .tuple [d2 x.1, d2 x.2]
section
variable {T : Addr → Prop} {P : Program} {w : World} {K : PySem.W.Frag} {mg : Str → Option Value} {base : Heap}
open LHead
def spLeans : SpP := fun as S => ∃ c : Clk, as = [.dat (dC c)] ∧ c.Fit ∧ S (.list ((everyLean c).map dLn))
theorem fn_leans (W : Wd T K mg base) : Fn T P w K mg base 3 "every_lean" spLeans [] := by
  have hN : (["clock", "exchange", "other"] : List Str).Nodup := by decide +kernel
  obtain ⟨fd, hm, F⟩ := (W.dv 14 _ rfl).ex
  refine Fn.make (N := ["clock", "exchange", "other"]) (ps := ["clock"]) F hm ⟨rfl, rfl, rfl, by decide +kernel, rfl, by decide +kernel, by decide +kernel⟩ ?_ (fun _ _ _ _ _ _ us hl => match us, hl with | [_], _ => rfl) ?_
  · rintro as S ⟨c, rfl, _⟩
    exact ⟨rfl, by simp [Ent.isOwn]⟩
  · rintro cdv A outer s H E hr as S ⟨c, rfl, fit, hS⟩
    have h12 := fit.ok.eds.few
    have hnum := fit.ok.eds.num
    have e0 : ((everyEx c.eds).flatMap fun x => (needsOf c x).map fun y => dLn (x, y)) = (everyLean c).map dLn := by
      unfold everyLean
      rw [List.map_flatMap]
      congr 1
      funext q
      rw [List.map_map]
      rfl
    refine ex_ret (Ev.imp (ev_lc2 (own := [("exchange", 1), ("other", 2)]) (vs1 := [2]) (L := everyEx c.eds) (M := needsOf c) (enc := d2) (enc1 := d2) (f := fun x y => dLn (x, y)) rfl hN (blkOk_by (by kernel_rfl)) (by decide) (wk_lst (ev_callD (fn_every W) (hr.mono (by decide)) (ar_cons (ev_nm 0) ar_nil) ⟨c, rfl, h12, hnum, rfl⟩)) ?_ ?_) fun d e => ?_)
    · rw [e0, List.length_map]
      exact Nat.lt_of_le_of_lt (everyLean_len h12 hnum) (by decide)
    · rintro x hx
      refine ⟨[.dat (dC c), .dat (d2 x), .unk], fun s H c' cl fp => ⟨bd_nm 1 hN, wk_lst (ev_callD (fn_needs W) (hr.mono (by decide)) (ar_cons (ev_nm 0) (ar_cons (ev_nm 1) ar_nil)) ⟨c, x, rfl, h12, fit.t, fit.b, rfl⟩)⟩, fun y hy => ⟨[.dat (dC c), .dat (d2 x), .dat (d2 y)], fun s H c' cl fp => ⟨bd_nm 2 hN, ev_tup (evs_cons (ev_nm 1) (evs_cons (ev_nm 2) evs_nil))⟩⟩⟩
    · rw [← e, e0]
      exact hS
theorem atGap {c : Clk} (ok : c.Ok) {v : Int} (h0 : 0 ≤ v) (h1 : v < c.eds.length) : atI (c.gps.map dI) v = some (dI (gL c.gps v)) := by
  have hl := ok.gps.len
  rw [atI_at (d := dI []) h0 (by rw [List.length_map]; omega)]
  congr 1
  unfold gL
  simp only [List.getD_eq_getElem?_getD, List.getElem?_map]
  cases c.gps[v.toNat]? <;> rfl
/-- a wheel that can go on -/
structure Goes (c : Clk) (v : Int) : Prop where
  h0 : 0 ≤ v
  h1 : v < c.eds.length
  h2 : 0 < gI c.eds v
def spGapFrom : SpP := fun as S => ∃ (c : Clk) (v t : Int), as = [.dat (dC c), .dat (.int v), .dat (.int t)] ∧ c.Fit ∧ Goes c v ∧ S (.int (gapFrom c v t))
theorem fn_gapFrom (W : Wd T K mg base) : Fn T P w K mg base 1 "gap_from" spGapFrom [] := by
  have hN : (["clock", "wheel", "tick", "found"] : List Str).Nodup := by decide +kernel
  obtain ⟨fd, hm, F⟩ := (W.dv 15 _ rfl).ex
  refine Fn.make (N := ["clock", "wheel", "tick", "found"]) (ps := ["clock", "wheel", "tick"]) F hm ⟨rfl, rfl, rfl, by decide +kernel, rfl, by decide +kernel, by decide +kernel⟩ ?_ (fun _ _ _ _ _ _ us hl => match us, hl with | [_, _, _], _ => rfl) ?_
  · rintro as S ⟨c, v, t, rfl, _⟩
    exact ⟨rfl, by simp [Ent.isOwn]⟩
  · rintro cdv A outer s H E hr as S ⟨c, v, t, rfl, fit, hv, hS⟩
    have hp : 0 < c.p := by have := fit.ok.p1; omega
    refine ex_setD 3 hN (ev_nm 2) ?_
    refine ex_while (n := c.p.toNat) (fun m e => ∃ f : Int, e = [.dat (dC c), .dat (.int v), .dat (.int t), .dat (.int f)] ∧ nxt (inGap c v) m f = gapFrom c v t ∧ ∃ s, f ≤ s ∧ s < f + m ∧ inGap c v s = true) .never ⟨t, rfl, rfl, fit.ok.gapHit hv.h0 hv.h1 hv.h2 t⟩ ?_
    rintro m es' ⟨f, rfl, hf, hs⟩
    refine ⟨Eq (!inGap c v f), Cv.tvb (cv_niI false (ev_mod hp (ev_nm 3) (ev_ixT (ev_nm 0).r ev_int rfl)) (Ev.r (ev_ixT (ev_ixT (ev_nm 0).r ev_int rfl).r (ev_nm 1) (atGap fit.ok hv.h0 hv.h1)))) rfl, fun q => ?_, fun q => ?_⟩
    · have q' : inGap c v f = false := by simpa using q
      obtain ⟨s', s1, s2, s3⟩ := hs
      cases m with
      | zero => simp at s2; omega
      | succ m =>
        have ne : s' ≠ f := fun z => by rw [z, q'] at s3; cases s3
        refine ex_augI 3 ip_add hN rfl ev_int (ex_nil ⟨m, Nat.lt_succ_self m, f + 1, rfl, ?_, s', by omega, by omega, s3⟩)
        rw [← hf]
        show _ = nxt _ (m + 1) f
        rw [nxt, if_neg (by rw [q']; decide)]
    · have q' : inGap c v f = true := by simpa using q
      refine ex_ret (Ev.imp (ev_nm 3) fun d e => ?_)
      rw [← e, show f = gapFrom c v t from by rw [← hf, nxt_hit q']]
      exact hS
def spAbove : SpP := fun as S => ∃ (c : Clk) (a b t : Int), as = [.dat (dC c), .dat (.int a), .dat (.int b), .dat (.int t)] ∧ c.Fit ∧ phases c a b ≠ [] ∧ S (.int (aboveT c a b t))
theorem fn_above (W : Wd T K mg base) : Fn T P w K mg base 2 "above_touches" spAbove [] := by
  have hN : (["clock", "one", "other", "tick", "phases", "found"] : List Str).Nodup := by decide +kernel
  obtain ⟨fd, hm, F⟩ := (W.dv 16 _ rfl).ex
  refine Fn.make (N := ["clock", "one", "other", "tick", "phases", "found"]) (ps := ["clock", "one", "other", "tick"]) F hm ⟨rfl, rfl, rfl, by decide +kernel, rfl, by decide +kernel, by decide +kernel⟩ ?_ (fun _ _ _ _ _ _ us hl => match us, hl with | [_, _, _, _], _ => rfl) ?_
  · rintro as S ⟨c, a, b, t, rfl, _⟩
    exact ⟨rfl, by simp [Ent.isOwn]⟩
  · rintro cdv A outer s H E hr as S ⟨c, a, b, t, rfl, fit, hv, hS⟩
    have hp : 0 < c.p := by have := fit.ok.p1; omega
    refine ex_setD 4 hN (ev_callD (fn_phases W) (hr.mono (by decide)) (ar_cons (ev_nm 0) (ar_cons (ev_nm 1) (ar_cons (ev_nm 2) ar_nil))) ⟨c, a, b, rfl, fit.t, rfl⟩) ?_
    refine ex_setD 5 hN (ev_nm 3) ?_
    refine ex_while (n := c.p.toNat) (fun m e => ∃ f : Int, e = [.dat (dC c), .dat (.int a), .dat (.int b), .dat (.int t), .dat (.list ((phases c a b).map .int)), .dat (.int f)] ∧ prv (fun s => atTouch c a b (s - 1)) m f = aboveT c a b t ∧ ∃ s, s ≤ f ∧ f < s + m ∧ atTouch c a b (s - 1) = true) .never ⟨t, rfl, rfl, fit.ok.aboveHit hv t⟩ ?_
    rintro m es' ⟨f, rfl, hf, hs⟩
    refine ⟨Eq (!atTouch c a b (f - 1)), Cv.tvb (cv_niI true (ev_mod hp (ev_sub (ev_nm 5) ev_int) (ev_ixT (ev_nm 0).r ev_int rfl)) (Ev.r (ev_nm 4))) rfl, fun q => ?_, fun q => ?_⟩
    · have q' : atTouch c a b (f - 1) = false := by simpa using q
      obtain ⟨s', s1, s2, s3⟩ := hs
      cases m with
      | zero => simp at s2; omega
      | succ m =>
        have ne : s' ≠ f := fun z => by rw [z, q'] at s3; cases s3
        refine ex_augI 5 ip_sub hN rfl ev_int (ex_nil ⟨m, Nat.lt_succ_self m, f - 1, rfl, ?_, s', by omega, by omega, s3⟩)
        rw [← hf]
        show _ = prv _ (m + 1) f
        rw [prv, if_neg (by rw [q']; decide)]
    · have q' : atTouch c a b (f - 1) = true := by simpa using q
      refine ex_ret (Ev.imp (ev_nm 5) fun d e => ?_)
      rw [← e, show f = aboveT c a b t from by rw [← hf]; exact (prv_hit (P := fun s => atTouch c a b (s - 1)) q').symm]
      exact hS
/-- one leans on other: both go, and they touch -/
structure Leans (c : Clk) (x y : Int × Int) : Prop where
  g1 : Goes c x.1
  g2 : Goes c y.1
  ph : x.1 ≠ y.1 → phases c x.1 y.1 ≠ []
def spPush : SpP := fun as S => ∃ (c : Clk) (x y : Int × Int) (t : Int), as = [.dat (dC c), .dat (d2 x), .dat (d2 y), .dat (.int t)] ∧ c.Fit ∧ Leans c x y ∧ S (.int (pushF c x y t))
theorem fn_push (W : Wd T K mg base) : Fn T P w K mg base 3 "pushed" spPush [] := by
  have hN : (["clock", "exchange", "other", "tick"] : List Str).Nodup := by decide +kernel
  obtain ⟨fd, hm, F⟩ := (W.dv 17 _ rfl).ex
  refine Fn.make (N := ["clock", "exchange", "other", "tick"]) (ps := ["clock", "exchange", "other", "tick"]) F hm ⟨rfl, rfl, rfl, by decide +kernel, rfl, by decide +kernel, by decide +kernel⟩ ?_ (fun _ _ _ _ _ _ us hl => match us, hl with | [_, _, _, _], _ => rfl) ?_
  · rintro as S ⟨c, a, b, t, rfl, _⟩
    exact ⟨rfl, by simp [Ent.isOwn]⟩
  · rintro cdv A outer s H E hr as S ⟨c, x, y, t, rfl, fit, hv, hS⟩
    refine ex_if (A := Eq (decide (x.1 = y.1))) (Cv.tvb (cv_eq (ev_ixT (ev_nm 1).r ev_int rfl) (ev_ixT (ev_nm 2).r ev_int rfl)) rfl) (fun q => ?_) (fun q => ?_)
    · have q' := of_decide_eq_true q
      unfold pushF at hS
      rw [if_pos q'] at hS
      exact ex_ret (ev_callD (fn_gapFrom W) (hr.mono (by decide)) (ar_cons (ev_nm 0) (ar_cons (ev_ixT (ev_nm 1).r ev_int rfl) (ar_cons (ev_add (ev_nm 3) ev_int) ar_nil))) ⟨c, x.1, t + 1, rfl, fit, hv.g1, hS⟩)
    · have q' := of_decide_eq_false q
      unfold pushF at hS
      rw [if_neg q'] at hS
      exact ex_nil (ex_ret (ev_callD (fn_gapFrom W) (hr.mono (by decide)) (ar_cons (ev_nm 0) (ar_cons (ev_ixT (ev_nm 1).r ev_int rfl) (ar_cons (ev_callD (fn_above W) (hr.mono (by decide)) (ar_cons (ev_nm 0) (ar_cons (ev_ixT (ev_nm 1).r ev_int rfl) (ar_cons (ev_ixT (ev_nm 2).r ev_int rfl) (ar_cons (ev_nm 3) ar_nil)))) ⟨c, x.1, y.1, t, rfl, fit, hv.ph q', rfl⟩) ar_nil))) ⟨c, x.1, _, rfl, fit, hv.g1, hS⟩))
end
end DL
end
section
set_option Elab.async false
set_option linter.all false
set_option autoImplicit false
set_option maxRecDepth 100000
set_option maxHeartbeats 2000000
/-! Plain: pushes are monotone; the least fixed point. -/
namespace MA
open DL (Goes Leans lkD putD dicOf KD)
abbrev Ex2 := Int × Int
section
variable {c : Clk} {v s t : Int}
theorem gapFrom_spec (fit : c.Fit) (g : Goes c v) : s ≤ gapFrom c v s ∧ gapFrom c v s < s + c.p ∧ inGap c v (gapFrom c v s) = true ∧ ∀ u, s ≤ u → u < gapFrom c v s → inGap c v u = false := by
  have h := nxt_spec (P := inGap c v) (n := c.p.toNat) (t := s) (fit.ok.gapHit g.h0 g.h1 g.h2 s)
  have := fit.ok.p1
  exact ⟨h.1, by have := h.2.1; unfold gapFrom; omega, h.2.2.1, h.2.2.2⟩
theorem gapFrom_le (fit : c.Fit) (g : Goes c v) (h : s ≤ t) (ht : inGap c v t = true) : gapFrom c v s ≤ t := by
  obtain ⟨_, _, _, h4⟩ := gapFrom_spec (s := s) fit g
  by_cases q : t < gapFrom c v s
  · rw [h4 t h q] at ht
    cases ht
  · omega
theorem gapTo_spec (fit : c.Fit) (g : Goes c v) : gapTo c v s ≤ s ∧ s < gapTo c v s + c.p ∧ inGap c v (gapTo c v s) = true ∧ ∀ u, u ≤ s → gapTo c v s < u → inGap c v u = false := by
  have h := prv_spec (P := inGap c v) (n := c.p.toNat) (t := s) (fit.ok.gapHitD g.h0 g.h1 g.h2 s)
  have := fit.ok.p1
  exact ⟨h.1, by have := h.2.1; unfold gapTo; omega, h.2.2.1, h.2.2.2⟩
theorem gapTo_ge (fit : c.Fit) (g : Goes c v) (h : t ≤ s) (ht : inGap c v t = true) : t ≤ gapTo c v s := by
  obtain ⟨_, _, _, h4⟩ := gapTo_spec (s := s) fit g
  by_cases q : gapTo c v s < t
  · rw [h4 t h q] at ht
    cases ht
  · omega
theorem aboveT_spec {a b : Int} (fit : c.Fit) (g : phases c a b ≠ []) : aboveT c a b s ≤ s ∧ s < aboveT c a b s + c.p ∧ atTouch c a b (aboveT c a b s - 1) = true ∧ ∀ u, u ≤ s → aboveT c a b s < u → atTouch c a b (u - 1) = false := by
  have h := prv_spec (P := fun s => atTouch c a b (s - 1)) (n := c.p.toNat) (t := s) (fit.ok.aboveHit g s)
  have := fit.ok.p1
  exact ⟨h.1, by have := h.2.1; unfold aboveT; omega, h.2.2.1, h.2.2.2⟩
theorem aboveT_ge {a b : Int} (fit : c.Fit) (g : phases c a b ≠ []) (h : t ≤ s) (ht : atTouch c a b (t - 1) = true) : t ≤ aboveT c a b s := by
  obtain ⟨_, _, _, h4⟩ := aboveT_spec (s := s) fit g
  by_cases q : aboveT c a b s < t
  · rw [h4 t h q] at ht
    cases ht
  · omega
/-- what a push asks of a tick in a gap -/
theorem pushF_le {x y : Ex2} (fit : c.Fit) (l : Leans c x y) (ht : inGap c x.1 t = true) : pushF c x y s ≤ t ↔ (if x.1 = y.1 then s < t else ∀ u, atTouch c x.1 y.1 u = true → u < s → u < t) := by
  unfold pushF
  by_cases e : x.1 = y.1
  · rw [if_pos e, if_pos e]
    constructor
    · intro h
      have := (gapFrom_spec (s := s + 1) fit l.g1).1
      omega
    · intro h
      exact gapFrom_le fit l.g1 (by omega) ht
  · rw [if_neg e, if_neg e]
    have g := l.ph e
    constructor
    · intro h u hu hs
      have h1 := (gapFrom_spec (s := aboveT c x.1 y.1 s) fit l.g1).1
      have h2 := aboveT_ge (t := u + 1) (s := s) fit g (by omega) (by rw [show u + 1 - 1 = u by omega]; exact hu)
      omega
    · intro h
      obtain ⟨h1, _, h3, _⟩ := aboveT_spec (s := s) fit g
      have := h _ h3 (by omega)
      exact gapFrom_le fit l.g1 (by omega) ht
theorem pushF_gap {x y : Ex2} (fit : c.Fit) (l : Leans c x y) : inGap c x.1 (pushF c x y s) = true := by
  unfold pushF
  split
  · exact (gapFrom_spec fit l.g1).2.2.1
  · exact (gapFrom_spec fit l.g1).2.2.1
theorem pushF_hi {x y : Ex2} (fit : c.Fit) (l : Leans c x y) : pushF c x y s ≤ s + c.p := by
  unfold pushF
  by_cases e : x.1 = y.1
  · rw [if_pos e]
    have := (gapFrom_spec (s := s + 1) fit l.g1).2.1
    omega
  · rw [if_neg e]
    have := (gapFrom_spec (s := aboveT c x.1 y.1 s) fit l.g1).2.1
    have := (aboveT_spec (s := s) fit (l.ph e)).1
    omega
theorem pushF_mono {x y : Ex2} (fit : c.Fit) (l : Leans c x y) (h : s ≤ t) : pushF c x y s ≤ pushF c x y t := by
  rw [pushF_le fit l (pushF_gap fit l)]
  have := (pushF_le (s := t) (t := pushF c x y t) fit l (pushF_gap fit l)).mp (Int.le_refl _)
  by_cases e : x.1 = y.1
  · rw [if_pos e] at this ⊢
    omega
  · rw [if_neg e] at this ⊢
    exact fun u hu hs => this u hu (by omega)
end
/-! ### dicts -/
def mkT (G : List Ex2) (x : Ex2 → Int) : KD := G.map fun q => ([q.1, q.2], x q)
def upd (x : Ex2 → Int) (a : Ex2) (v : Int) : Ex2 → Int := fun q => if q = a then v else x q
theorem key_eq {q a : Ex2} : ([q.1, q.2] : List Int) = [a.1, a.2] ↔ q = a := by
  constructor
  · intro h
    injection h with h1 h2
    injection h2 with h2 _
    exact Prod.ext h1 h2
  · intro h
    rw [h]
theorem lk_mk {x : Ex2 → Int} {a : Ex2} : ∀ {G : List Ex2}, lkD (mkT G x) [a.1, a.2] = if a ∈ G then some (x a) else none
  | [] => rfl
  | q :: G => by
    have ih := lk_mk (x := x) (a := a) (G := G)
    unfold lkD mkT at ih ⊢
    rw [List.map_cons, List.find?_cons]
    by_cases h : q = a
    · rw [h]
      simp
    · have h' : ¬ ([q.1, q.2] : List Int) = [a.1, a.2] := fun z => h (key_eq.mp z)
      simp only [h', decide_false]
      rw [ih]
      have h2 : ¬ a = q := fun z => h z.symm
      simp only [List.mem_cons, h2, false_or]
theorem put_mk {x : Ex2 → Int} {a : Ex2} {v : Int} {G : List Ex2} (h : a ∈ G) : putD (mkT G x) [a.1, a.2] v = mkT G (upd x a v) := by
  unfold putD
  rw [if_pos]
  · unfold mkT
    rw [List.map_map]
    refine List.map_congr_left fun q _ => ?_
    unfold upd
    by_cases e : q = a
    · have e' : ([q.1, q.2] : List Int) = [a.1, a.2] := key_eq.mpr e
      show (if ([q.1, q.2] : List Int) = [a.1, a.2] then (([q.1, q.2] : List Int), v) else ([q.1, q.2], x q)) = ([q.1, q.2], if q = a then v else x q)
      rw [if_pos e', if_pos e]
    · have e' : ¬ ([q.1, q.2] : List Int) = [a.1, a.2] := fun z => e (key_eq.mp z)
      show (if ([q.1, q.2] : List Int) = [a.1, a.2] then (([q.1, q.2] : List Int), v) else ([q.1, q.2], x q)) = ([q.1, q.2], if q = a then v else x q)
      rw [if_neg e', if_neg e]
  · rw [List.any_eq_true]
    exact ⟨_, List.mem_map.mpr ⟨a, h, rfl⟩, by simp⟩
theorem put_new {x : Ex2 → Int} {a : Ex2} {G : List Ex2} (h : a ∉ G) : putD (mkT G x) [a.1, a.2] (x a) = mkT (G ++ [a]) x := by
  unfold putD
  rw [if_neg]
  · unfold mkT
    rw [List.map_append]
    rfl
  · rw [List.any_eq_true]
    rintro ⟨q, hq, e⟩
    obtain ⟨b, hb, rfl⟩ := List.mem_map.mp hq
    exact h (by rw [← key_eq.mp (of_decide_eq_true e)]; exact hb)
theorem dicOf_mk {x : Ex2 → Int} {G : List Ex2} (h : G.Nodup) : dicOf (fun q : Ex2 => [q.1, q.2]) x G = mkT G x := by
  suffices k : ∀ (L A : List Ex2), (A ++ L).Nodup → L.foldl (fun acc q => putD acc [q.1, q.2] (x q)) (mkT A x) = mkT (A ++ L) x from k G [] h
  intro L
  induction L with
  | nil => intro A _; rw [List.append_nil]; rfl
  | cons q L ih =>
    intro A hn
    rw [List.foldl_cons, put_new]
    · have := ih (A ++ [q]) (by rw [List.append_assoc]; exact hn)
      rw [this, List.append_assoc]
      rfl
    · intro hq
      have := List.nodup_append.mp hn
      exact this.2.2 q hq q List.mem_cons_self rfl
theorem mkT_len {x : Ex2 → Int} {G : List Ex2} : (mkT G x).length = G.length := List.length_map _
/-! ### the measure -/
def meas (f : Ex2 → Nat) (G : List Ex2) : Nat := (G.map f).sum
theorem meas_le {f g : Ex2 → Nat} : ∀ {G : List Ex2}, (∀ q ∈ G, f q ≤ g q) → meas f G ≤ meas g G
  | [], _ => Nat.le_refl _
  | q :: G, h => by
    have h1 := h q List.mem_cons_self
    have h2 := meas_le (G := G) fun r hr => h r (List.mem_cons_of_mem _ hr)
    unfold meas at h2 ⊢
    simp only [List.map_cons, List.sum_cons]
    omega
theorem meas_lt {f g : Ex2 → Nat} {a : Ex2} : ∀ {G : List Ex2}, (∀ q ∈ G, f q ≤ g q) → a ∈ G → f a < g a → meas f G < meas g G
  | q :: G, h, ha, hl => by
    have h1 := h q List.mem_cons_self
    have h2 := meas_le (G := G) fun r hr => h r (List.mem_cons_of_mem _ hr)
    rcases List.mem_cons.mp ha with e | e
    · subst e
      unfold meas at h2 ⊢
      simp only [List.map_cons, List.sum_cons]
      omega
    · have h3 := meas_lt (G := G) (fun r hr => h r (List.mem_cons_of_mem _ hr)) e hl
      unfold meas at h3 ⊢
      simp only [List.map_cons, List.sum_cons]
      omega
/-! ### closed, and least -/
structure Cl (c : Clk) (G : List Ex2) (L : List (Ex2 × Ex2)) (t0 : Int) (y : Ex2 → Int) : Prop where
  lo : ∀ q ∈ G, t0 ≤ y q
  gap : ∀ q ∈ G, inGap c q.1 (y q) = true
  push : ∀ l ∈ L, pushF c l.1 l.2 (y l.2) ≤ y l.1
structure UpI (c : Clk) (G : List Ex2) (L : List (Ex2 × Ex2)) (t0 B : Int) (x : Ex2 → Int) : Prop where
  lo : ∀ q ∈ G, t0 ≤ x q
  gap : ∀ q ∈ G, inGap c q.1 (x q) = true
  le : ∀ q ∈ G, x q ≤ B
  low : ∀ y, Cl c G L t0 y → ∀ q ∈ G, x q ≤ y q
structure OkL (c : Clk) (G : List Ex2) (L : List (Ex2 × Ex2)) : Prop where
  g : ∀ q ∈ G, Goes c q.1
  l : ∀ l ∈ L, l.1 ∈ G ∧ l.2 ∈ G ∧ Leans c l.1 l.2
def UpPost (c : Clk) (G : List Ex2) (L : List (Ex2 × Ex2)) (t0 B : Int) : Option (Ex2 → Int) → Prop
  | some x => UpI c G L t0 B x ∧ Cl c G L t0 x
  | none => ∃ a ∈ G, ∀ y, Cl c G L t0 y → B < y a
section
variable {c : Clk} {G : List Ex2} {L : List (Ex2 × Ex2)} {t0 B : Int} {x : Ex2 → Int}
theorem upI_start (fit : c.Fit) (ok : OkL c G L) (hB : t0 + c.p ≤ B + 1) : UpI c G L t0 B fun q => gapFrom c q.1 t0 where
  lo q hq := (gapFrom_spec fit (ok.g q hq)).1
  gap q hq := (gapFrom_spec fit (ok.g q hq)).2.2.1
  le q hq := by
    have := (gapFrom_spec (s := t0) fit (ok.g q hq)).2.1
    omega
  low y hy q hq := gapFrom_le fit (ok.g q hq) (hy.lo q hq) (hy.gap q hq)
theorem upI_low (fit : c.Fit) (ok : OkL c G L) (h : UpI c G L t0 B x) {l : Ex2 × Ex2} (hl : l ∈ L) : ∀ y, Cl c G L t0 y → pushF c l.1 l.2 (x l.2) ≤ y l.1 := fun y hy =>
  Int.le_trans (pushF_mono fit (ok.l l hl).2.2 (h.low y hy _ (ok.l l hl).2.1)) (hy.push l hl)
theorem upI_step (fit : c.Fit) (ok : OkL c G L) (h : UpI c G L t0 B x) {l : Ex2 × Ex2} (hl : l ∈ L) (hx : x l.1 < pushF c l.1 l.2 (x l.2)) (hB : pushF c l.1 l.2 (x l.2) ≤ B) : UpI c G L t0 B (upd x l.1 (pushF c l.1 l.2 (x l.2))) where
  lo q hq := by
    unfold upd
    have := h.lo q hq
    split
    · rename_i e
      rw [e] at this
      omega
    · exact this
  gap q hq := by
    unfold upd
    split
    · rename_i e
      rw [e]
      exact pushF_gap fit (ok.l l hl).2.2
    · exact h.gap q hq
  le q hq := by
    unfold upd
    split
    · exact hB
    · exact h.le q hq
  low y hy q hq := by
    unfold upd
    split
    · rename_i e
      rw [e]
      exact upI_low fit ok h hl y hy
    · exact h.low y hy q hq
def mUp (B : Int) (x : Ex2 → Int) (G : List Ex2) : Nat := meas (fun q => (B - x q).toNat) G
theorem mUp_lt {a : Ex2} {v : Int} (ha : a ∈ G) (h : x a < v) (hB : v ≤ B) : mUp B (upd x a v) G < mUp B x G := by
  refine meas_lt (a := a) (fun q hq => ?_) ha ?_
  · unfold upd
    split
    · rename_i e
      rw [e]
      omega
    · exact Nat.le_refl _
  · unfold upd
    rw [if_pos rfl]
    omega
theorem upI_cl (h : UpI c G L t0 B x) (hp : ∀ l ∈ L, pushF c l.1 l.2 (x l.2) ≤ x l.1) : Cl c G L t0 x := ⟨h.lo, h.gap, hp⟩
/-- the post says the answer -/
theorem upPost_uniq {r r' : Option (Ex2 → Int)} (h : UpPost c G L t0 B r) (h' : UpPost c G L t0 B r') : match r, r' with
    | some x, some x' => ∀ q ∈ G, x q = x' q
    | none, none => True
    | _, _ => False := by
  cases r with
  | none =>
    cases r' with
    | none => trivial
    | some x =>
      obtain ⟨a, ha, hh⟩ := h
      have h1 := hh x h'.2
      have := h'.1.le a ha
      exact absurd h1 (by omega)
  | some x =>
    cases r' with
    | none =>
      obtain ⟨a, ha, hh⟩ := h'
      have h1 := hh x h.2
      have := h.1.le a ha
      exact absurd h1 (by omega)
    | some x' =>
      intro q hq
      have := h.1.low x' h'.2 q hq
      have := h'.1.low x h.2 q hq
      show x q = x' q
      omega
end
end MA
namespace MA
open DL (Goes Leans)
/-- leans between what is still to do -/
def leansIn (c : Clk) (G : List Ex2) : List (Ex2 × Ex2) := (everyLean c).filter fun l => decide (l.1 ∈ G) && decide (l.2 ∈ G)
theorem mem_rngI' {a b x : Int} : x ∈ rngI a b ↔ a ≤ x ∧ x < b := mem_rngI
theorem rngI_pw (a b : Int) : (rngI a b).Pairwise (· < ·) := by
  unfold rngI
  rw [List.pairwise_map]
  refine List.Pairwise.imp ?_ List.pairwise_lt_range
  intro i j h
  omega
theorem everyEx_pw (eds : List Int) : (everyEx eds).Pairwise lex2 := by
  unfold everyEx
  rw [List.pairwise_flatMap]
  constructor
  · intro q _
    rw [List.pairwise_map]
    exact List.Pairwise.imp (fun h => .inr ⟨rfl, h⟩) (rngI_pw _ _)
  · have : (eds.zipIdx.map (·.2)).Pairwise (· < ·) := by
      rw [List.zipIdx_map_snd]
      exact List.pairwise_lt_range'
    rw [List.pairwise_map] at this
    refine List.Pairwise.imp ?_ this
    intro p q h x hx y hy
    obtain ⟨_, _, rfl⟩ := List.mem_map.mp hx
    obtain ⟨_, _, rfl⟩ := List.mem_map.mp hy
    exact .inl (by show (p.2 : Int) < q.2; omega)
theorem lex2_irr {a : Ex2} : ¬ lex2 a a := by
  unfold lex2
  omega
theorem everyEx_nodup (eds : List Int) : (everyEx eds).Nodup :=
  (everyEx_pw eds).imp fun {a b} h => fun (e : a = b) => lex2_irr (by rw [e] at h; exact h)
theorem goes_of {c : Clk} {q : Ex2} (h : q ∈ everyEx c.eds) : Goes c q.1 := by
  obtain ⟨h1, h2, h3, h4⟩ := mem_everyEx.mp h
  exact ⟨h1, h2, by omega⟩
theorem mem_everyLean {c : Clk} {x y : Ex2} : (x, y) ∈ everyLean c ↔ x ∈ everyEx c.eds ∧ ((1 < x.2 ∧ y = (x.1, x.2 - 1)) ∨ (y.1 ≠ x.1 ∧ 0 ≤ y.1 ∧ y.1 < c.eds.length ∧ phases c x.1 y.1 ≠ [] ∧ 0 < leastN c x.1 x.2 y.1 ∧ y.2 = leastN c x.1 x.2 y.1)) := by
  unfold everyLean
  rw [List.mem_flatMap]
  constructor
  · rintro ⟨x', hx, h⟩
    obtain ⟨y', hy, e⟩ := List.mem_map.mp h
    cases e
    refine ⟨hx, ?_⟩
    unfold needsOf at hy
    rw [List.mem_mergeSort] at hy
    unfold needs0 at hy
    rcases List.mem_append.mp hy with h | h
    · left
      split at h
      · rename_i q
        exact ⟨q, List.mem_singleton.mp h⟩
      · cases h
    · right
      obtain ⟨o, ho, e⟩ := List.mem_filterMap.mp h
      obtain ⟨h1, h2⟩ := mem_rngI.mp ho
      unfold need1 at e
      split at e
      · rename_i q
        cases e
        exact ⟨q.1, h1, h2, q.2.1, q.2.2, rfl⟩
      · cases e
  · rintro ⟨hx, h⟩
    refine ⟨x, hx, List.mem_map.mpr ⟨y, ?_, rfl⟩⟩
    unfold needsOf
    rw [List.mem_mergeSort]
    unfold needs0
    rw [List.mem_append]
    rcases h with ⟨h1, h2⟩ | ⟨h1, h2, h3, h4, h5, h6⟩
    · left
      rw [if_pos h1, h2]
      exact List.mem_singleton.mpr rfl
    · right
      rw [List.mem_filterMap]
      refine ⟨y.1, mem_rngI.mpr ⟨h2, h3⟩, ?_⟩
      unfold need1
      rw [if_pos ⟨h1, h4, h5⟩, ← h6]
theorem leansIn_ok {c : Clk} {G : List Ex2} (h : ∀ q ∈ G, q ∈ everyEx c.eds) : OkL c G (leansIn c G) where
  g q hq := goes_of (h q hq)
  l l hl := by
    obtain ⟨h1, h2⟩ := List.mem_filter.mp hl
    rw [Bool.and_eq_true, decide_eq_true_iff, decide_eq_true_iff] at h2
    refine ⟨h2.1, h2.2, goes_of (h _ h2.1), goes_of (h _ h2.2), fun ne => ?_⟩
    obtain ⟨_, h3⟩ := mem_everyLean.mp h1
    rcases h3 with ⟨_, h4⟩ | h4
    · exact absurd (by rw [h4]) ne
    · exact h4.2.2.2.1
end MA
end
section
set_option Elab.async false
set_option linter.all false
set_option autoImplicit false
set_option maxRecDepth 100000
set_option maxHeartbeats 2000000
/-! The defs: the least ticks. -/
namespace DL
open PySem PySem.Spec L2
open PyProof.Rows hiding St
open MA
theorem EvR.imp {T : Addr → Prop} {X : Cx} {es : List Ent} {e : Expr} {A S : D → Prop} (h : EvR T X es e A) (f : ∀ d, A d → S d) : EvR T X es e S := fun p H σ Q g o k => h p H σ Q g o fun H' v d g' r q => k H' v d g' r (f d q)
def tkD (G : List Ex2) : Option (Ex2 → Int) → D
  | none => .none
  | some x => dicD (mkT G x)
section
variable {T : Addr → Prop} {P : Program} {w : World} {K : PySem.W.Frag} {mg : Str → Option Value} {base : Heap}
open LHead
theorem leansIn_len {c : Clk} {G : List Ex2} (fit : c.Fit) : (leansIn c G).length ≤ 624 :=
  Nat.le_trans (List.length_filter_le _ _) (everyLean_len fit.ok.eds.few fit.ok.eds.num)
/-- the loop's line: what a for-loop over the leans keeps -/
structure ForI (c : Clk) (G : List Ex2) (L : List (Ex2 × Ex2)) (t0 B : Int) (M0 i : Nat) (x : Ex2 → Int) (ch : Bool) : Prop where
  up : UpI c G L t0 B x
  le : mUp B x G ≤ M0
  lt : ch = true → mUp B x G < M0
  no : ch = false → ∀ j l, j < i → L[j]? = some l → pushF c l.1 l.2 (x l.2) ≤ x l.1
theorem ForI.keep {c : Clk} {G : List Ex2} {L : List (Ex2 × Ex2)} {t0 B : Int} {M0 i : Nat} {x : Ex2 → Int} {ch : Bool} {l : Ex2 × Ex2} (h : ForI c G L t0 B M0 i x ch) (hi : L[i]? = some l) (hl : pushF c l.1 l.2 (x l.2) ≤ x l.1) : ForI c G L t0 B M0 (i + 1) x ch := ⟨h.up, h.le, h.lt, fun q j l' hj e => by
  rcases Nat.lt_succ_iff_lt_or_eq.mp hj with z | z
  · exact h.no q j l' z e
  · rw [z, hi] at e
    cases e
    exact hl⟩
theorem ForI.step {c : Clk} {G : List Ex2} {L : List (Ex2 × Ex2)} {t0 B : Int} {M0 i : Nat} {x : Ex2 → Int} {ch : Bool} {l : Ex2 × Ex2} (fit : c.Fit) (ok : OkL c G L) (h : ForI c G L t0 B M0 i x ch) (hi : L[i]? = some l) (hl : x l.1 < pushF c l.1 l.2 (x l.2)) (hB : pushF c l.1 l.2 (x l.2) ≤ B) : ForI c G L t0 B M0 (i + 1) (upd x l.1 (pushF c l.1 l.2 (x l.2))) true := by
  have m := List.mem_of_getElem? hi
  have := mUp_lt (B := B) (ok.l l m).1 hl hB
  have := h.le
  exact ⟨upI_step fit ok h.up m hl hB, by omega, fun _ => by omega, fun q => nomatch q⟩
theorem ForI.fin {c : Clk} {G : List Ex2} {L : List (Ex2 × Ex2)} {t0 B : Int} {M0 : Nat} {x : Ex2 → Int} {ch : Bool} (h : ForI c G L t0 B M0 L.length x ch) : UpI c G L t0 B x ∧ (ch = false → Cl c G L t0 x) ∧ 2 * mUp B x G + ch.toNat < 2 * M0 + 1 := by
  refine ⟨h.up, fun q => upI_cl h.up fun l hl => ?_, ?_⟩
  · obtain ⟨j, hj, e⟩ := List.getElem_of_mem hl
    exact h.no q j l hj (by rw [← e]; exact List.getElem?_eq_getElem hj)
  · have h1 := h.le
    cases ch with
    | false =>
      show 2 * mUp B x G + 0 < _
      omega
    | true =>
      have := h.lt rfl
      show 2 * mUp B x G + 1 < _
      omega
theorem lk_some {G : List Ex2} {x : Ex2 → Int} {a : Ex2} (h : a ∈ G) : lkD (mkT G x) [a.1, a.2] = some (x a) := by
  rw [lk_mk, if_pos h]
theorem everyEx_len' {c : Clk} (fit : c.Fit) : (everyEx c.eds).length ≤ 48 := everyEx_len fit.ok.eds.few fit.ok.eds.num
theorem cm2 {i j : Int} (h : 0 ≤ i) (h2 : i ≤ 1000000) : CMul i j := .inl ⟨by omega, by omega⟩
def leastPost (c : Clk) (r : Option (Ex2 → Int)) : Prop := UpPost c (everyEx c.eds) (leansIn c (everyEx c.eds)) 0 (0 + 2 * c.p * max 1 ((everyEx c.eds).length : Int) - 1) r
def spLeastTicks : SpP := fun as S => ∃ c : Clk, as = [.dat (dC c), .dat (.int 0), .dat (.tuple [])] ∧ c.Fit ∧ ∀ r, leastPost c r → S (tkD (everyEx c.eds) r)
theorem fn_leastTicks (W : Wd T K mg base) : Fn T P w K mg base 4 "least_ticks" spLeastTicks [.dat (.int 0), .dat (.tuple [])] := by
  have hN : (["clock", "first", "known", "going", "ticks", "one", "other", "leans", "most", "changed", "least", "exchange"] : List Str).Nodup := by decide +kernel
  obtain ⟨fd, hm, F⟩ := (W.dv 18 _ rfl).ex
  refine Fn.makeD (N := ["clock", "first", "known", "going", "ticks", "one", "other", "leans", "most", "changed", "least", "exchange"]) (ps := ["clock", "first", "known"]) 1 0 F hm ⟨rfl, rfl, rfl, by decide +kernel, rfl, by decide +kernel, by decide +kernel⟩ ?_ (by show [V.int 0, V.ref _] ≠ []; exact List.cons_ne_nil _ _) rfl ?_ ?_ ?_
  · rintro as S ⟨l, rfl, _⟩
    exact ⟨rfl, by simp [Ent.isOwn]⟩
  · intro p H g
    exact .cons ⟨_, rfl, .int 0⟩ (.cons ⟨_, rfl, .tup (.inr ⟨rfl, W.z1⟩) .nil⟩ .nil)
  · intro Ta kV doc pm an cdv ct us its h1 h2
    match us, its, h1, h2 with
    | [_], [_, _], _, _ => exact ⟨_, rfl, rfl⟩
  · rintro cdv A outer s H E hr as S ⟨c, rfl, fit, hS⟩
    have h48 := everyEx_len' fit
    have hp := fit.ok.p1
    have hG := everyEx_nodup c.eds
    have ok : OkL c (everyEx c.eds) (leansIn c (everyEx c.eds)) := leansIn_ok fun q h => h
    have hgap : ∀ q ∈ everyEx c.eds, Goes c q.1 := fun q h => goes_of h
    unfold leastPost at hS
    refine ex_setLcD 3 (own := [("exchange", 11)]) (enc := d2) (L := everyEx c.eds) (cf := fun _ => true) (f := d2) hN rfl (blkOk_by (by kernel_rfl)) (wk_lst (ev_callD (fn_every W) (hr.mono (by decide)) (ar_cons (ev_nm 0) ar_nil) ⟨c, rfl, fit.ok.eds.few, fit.ok.eds.num, rfl⟩)) (sz (by omega)) (fun q hq => ⟨[.dat (dC c), .dat (.int 0), .dat (.tuple []), .unk, .unk, .unk, .unk, .unk, .unk, .unk, .unk, .dat (d2 q)], fun s H c' cl fp => ⟨bd_nm 11 hN, tvs_one (Cv.tvb (cv_ni0 (ev_nm 11).r (Ev.r (ev_nm 2))) rfl), fun _ => ev_nm 11⟩⟩) ?_
    rw [ft]
    refine ex_setN 4 (f := .dic (mkT (everyEx c.eds) fun q => gapFrom c q.1 0)) hN ?_ ?_
    · rw [← dicOf_mk hG]
      exact evn_dc (own := [("exchange", 11)]) (enc := d2) (L := everyEx c.eds) (kf := fun q => [q.1, q.2]) (vf := fun q => gapFrom c q.1 0) hr rfl hN (blkOk_by (by kernel_rfl)) (wk_lst (ev_nm 3)) (sz (by omega)) (fun q _ => List.cons_ne_nil _ _) (fun q hq => ⟨[.dat (dC c), .dat (.int 0), .dat (.tuple []), .dat (.list ((everyEx c.eds).map d2)), .unk, .unk, .unk, .unk, .unk, .unk, .unk, .dat (d2 q)], fun s H c' cl fp => ⟨bd_nm 11 hN, ev_nm 11, ev_callD (fn_gapFrom W) (hr.mono (by decide)) (ar_cons (ev_nm 0) (ar_cons (ev_ixT (ev_nm 11).r ev_int rfl) (ar_cons (ev_nm 1) ar_nil))) ⟨c, q.1, 0, rfl, fit, hgap q hq, rfl⟩⟩⟩)
    refine ex_setLcD 7 (own := [("one", 5), ("other", 6)]) (enc := dLn) (L := everyLean c) (cf := fun l => decide (l.1 ∈ everyEx c.eds) && decide (l.2 ∈ everyEx c.eds)) (f := dLn) hN rfl (blkOk_by (by kernel_rfl)) (wk_lst (ev_callD (fn_leans W) (hr.mono (by decide)) (ar_cons (ev_nm 0) ar_nil) ⟨c, rfl, fit, rfl⟩)) (sz (Nat.le_trans (everyLean_len fit.ok.eds.few fit.ok.eds.num) (by decide))) (fun l hl => ⟨[.dat (dC c), .dat (.int 0), .dat (.tuple []), .dat (.list ((everyEx c.eds).map d2)), .dic (mkT (everyEx c.eds) fun q => gapFrom c q.1 0), .dat (d2 l.1), .dat (d2 l.2), .unk, .unk, .unk, .unk, .unk], fun s H c' cl fp => ⟨bd_tup rfl (Bds.cons rfl (bd_nm 5 hN) (Bds.cons rfl (bd_nm 6 hN) .nil)), tvs_one ?_, fun _ => ev_tup (evs_cons (ev_nm 5) (evs_cons (ev_nm 6) evs_nil))⟩⟩) ?_
    · refine Tv.imp (Wv.tv (wv_and (Cv.tvb (cv_din (k := [l.1.1, l.1.2]) hr (ev_nm 5) (evr_dic 4)) rfl) fun _ => wv_and1 (Cv.tvb (cv_din (k := [l.2.1, l.2.2]) hr (ev_nm 6) (evr_dic 4)) rfl))) fun z e => ?_
      rw [← e, lk_mk, lk_mk]
      split <;> split <;> simp [*]
    refine ex_setD 8 hN (ev_add (ev_nm 1) (ev_mul (cm2 (i := 2 * c.p) (by omega) (by have := fit.ok.p2; omega)) (ev_mul (.inl (by decide)) ev_int (ev_ixT (ev_nm 0).r ev_int rfl)) (ev_max2 rfl W.g.max ev_int (ev_lenL (ds := (everyEx c.eds).map d2) W.g.len (Ev.r (ev_nm 3)))))) ?_
    rw [show (((everyEx c.eds).map d2).length : Int) = ((everyEx c.eds).length : Int) by rw [List.length_map]]
    refine ex_setD 9 hN ev_bl ?_
    have hm1 : (1 : Int) ≤ max 1 ((everyEx c.eds).length : Int) := Int.le_max_left _ _
    have hmm : 2 * c.p ≤ 2 * c.p * max 1 ((everyEx c.eds).length : Int) := by
      have := Int.mul_le_mul_of_nonneg_left hm1 (by omega : 0 ≤ 2 * c.p)
      rw [Int.mul_one] at this
      exact this
    generalize hM : (0 + 2 * c.p * max 1 ((everyEx c.eds).length : Int)) = M at hS ⊢
    have lnl := leansIn_len (G := everyEx c.eds) fit
    have hle : (everyLean c).filter (fun l => decide (l.1 ∈ everyEx c.eds) && decide (l.2 ∈ everyEx c.eds)) = leansIn c (everyEx c.eds) := rfl
    rw [hle]
    generalize leansIn c (everyEx c.eds) = L at hS ok lnl ⊢
    generalize everyEx c.eds = G at hS ok h48 hG hgap lnl ⊢
    refine ex_while (n := 2 * mUp (M - 1) (fun q => gapFrom c q.1 0) G + 1) (fun m e => ∃ (x : Ex2 → Int) (ch : Bool) (z5 z6 z10 : Ent), e = [.dat (dC c), .dat (.int 0), .dat (.tuple []), .dat (.list (G.map d2)), .dic (mkT G x), z5, z6, .dat (.list (L.map dLn)), .dat (.int M), .dat (.bool ch), z10, .unk] ∧ UpI c G L 0 (M - 1) x ∧ (ch = false → Cl c G L 0 x) ∧ m = 2 * mUp (M - 1) x G + ch.toNat) .never ⟨_, true, .unk, .unk, .unk, rfl, upI_start fit ok (by omega), (fun q => nomatch q), rfl⟩ ?_
    rintro m es' ⟨x, ch, z5, z6, z10, rfl, hu, hc, hmm⟩
    refine ⟨Eq ch, tv_b (ev_nm 9), fun q => ?_, fun q => ?_⟩
    · subst q
      refine ex_setD 9 hN ev_bl ?_
      refine ex_forD [5, 6] (enc := dLn) (L := L) (fun i e => ∃ (x' : Ex2 → Int) (ch : Bool) (z5 z6 z10 : Ent), e = [.dat (dC c), .dat (.int 0), .dat (.tuple []), .dat (.list (G.map d2)), .dic (mkT G x'), z5, z6, .dat (.list (L.map dLn)), .dat (.int M), .dat (.bool ch), z10, .unk] ∧ ForI c G L 0 (M - 1) (mUp (M - 1) x G) i x' ch) .never rfl (wk_lst (ev_nm 7)) ⟨x, false, z5, z6, z10, rfl, hu, Nat.le_refl _, (fun q => nomatch q), fun _ j l hj _ => absurd hj (Nat.not_lt_zero _)⟩ ?_ ?_
      · rintro i l es' hi ⟨x', ch, z5, z6, z10, rfl, hf⟩
        obtain ⟨la, lb, hl⟩ := ok.l l (List.mem_of_getElem? hi)
        refine ⟨_, bd_tup rfl (Bds.cons rfl (bd_nm 5 hN) (Bds.cons rfl (bd_nm 6 hN) .nil)), ?_⟩
        refine ex_setD 10 hN (ev_callD (fn_push W) (hr.mono (by decide)) (ar_cons (ev_nm 0) (ar_cons (ev_nm 5) (ar_cons (ev_nm 6) (ar_cons (ev_dget (k := [l.2.1, l.2.2]) hr (evr_dic 4) (ev_nm 6) (lk_some lb)) ar_nil)))) ⟨c, l.1, l.2, x' l.2, rfl, fit, hl, rfl⟩) ?_
        refine ex_if (A := Eq (decide (x' l.1 < pushF c l.1 l.2 (x' l.2)))) (Cv.tvb (cv_gt (ev_nm 10) (ev_dget (k := [l.1.1, l.1.2]) hr (evr_dic 4) (ev_nm 5) (lk_some la))) rfl) (fun q => ?_) (fun q => ?_)
        · have q' := of_decide_eq_true q
          refine ex_put 4 (k := [l.1.1, l.1.2]) hr rfl rfl (.inr (.inl rfl)) (ev_nm 10) (ev_nm 5) ?_ (by rw [mkT_len]; exact Nat.lt_of_le_of_lt h48 (by decide))
          rw [put_mk la]
          refine ex_setD 9 hN ev_bl ?_
          refine ex_if (A := Eq (decide (M ≤ pushF c l.1 l.2 (x' l.2)))) (Cv.tvb (cv_ge (ev_nm 10) (ev_nm 8)) rfl) (fun q2 => ?_) (fun q2 => ?_)
          · have q2' := of_decide_eq_true q2
            refine ex_ret (Ev.imp ev_non fun d e => ?_)
            rw [← e]
            refine hS none ⟨l.1, la, fun y hy => ?_⟩
            have := upI_low fit ok hf.up (List.mem_of_getElem? hi) y hy
            omega
          · have q2' := of_decide_eq_false q2
            exact ex_nil (ex_nil (ex_nil ⟨_, true, _, _, _, rfl, hf.step fit ok hi q' (by omega)⟩))
        · have q' := of_decide_eq_false q
          exact ex_nil (ex_nil ⟨x', ch, _, _, _, rfl, hf.keep hi (by omega)⟩)
      · rintro es' ⟨x', ch, z5, z6, z10, rfl, hf⟩
        obtain ⟨f1, f2, f3⟩ := hf.fin
        exact ex_nil ⟨_, by rw [hmm]; exact f3, x', ch, z5, z6, z10, rfl, f1, f2, rfl⟩
    · subst q
      exact ex_retR (EvR.imp (evr_dic 4) fun d e => by rw [← e]; exact hS (some x) ⟨hu, hc rfl⟩)
end
end DL
end
section
set_option Elab.async false
set_option linter.all false
set_option autoImplicit false
set_option maxRecDepth 100000
set_option maxHeartbeats 2000000
/-! Plain: pulls, and the most ticks. -/
namespace MA
open DL (Goes Leans lkD putD dicOf KD)
/-- the greatest tick in a gap of y's wheel from which x is not pushed past t -/
structure Pull (c : Clk) (x y : Ex2) (t r : Int) : Prop where
  gap : inGap c y.1 r = true
  le : pushF c x y r ≤ t
  top : ∀ s, inGap c y.1 s = true → pushF c x y s ≤ t → s ≤ r
section
variable {c : Clk} {s t : Int} {x y : Ex2}
theorem pushF_lo (fit : c.Fit) (l : Leans c x y) : s < pushF c x y s + c.p := by
  have hp := fit.ok.p1
  have h := (pushF_le (s := s) (t := pushF c x y s) fit l (pushF_gap fit l)).mp (Int.le_refl _)
  by_cases e : x.1 = y.1
  · rw [if_pos e] at h
    omega
  · rw [if_neg e] at h
    obtain ⟨h1, h2, h3, _⟩ := aboveT_spec (s := s) fit (l.ph e)
    have := h _ h3 (by omega)
    omega
structure PullI (c : Clk) (x y : Ex2) (t b f : Int) : Prop where
  gap : inGap c y.1 f = true
  lo : b ≤ f
  top : ∀ s, inGap c y.1 s = true → pushF c x y s ≤ t → s ≤ f
def pullB (c : Clk) (y : Ex2) (t : Int) : Int := gapTo c y.1 (t - c.p)
theorem pullB_ok (fit : c.Fit) (l : Leans c x y) : inGap c y.1 (pullB c y t) = true ∧ pushF c x y (pullB c y t) ≤ t := by
  obtain ⟨h1, h2, h3, h4⟩ := gapTo_spec (s := t - c.p) fit l.g2
  refine ⟨h3, ?_⟩
  have := pushF_hi (s := pullB c y t) fit l
  unfold pullB at this ⊢
  omega
theorem pullI_start (fit : c.Fit) (l : Leans c x y) : PullI c x y t (pullB c y t) (gapTo c y.1 (t + c.p)) := by
  obtain ⟨h1, h2, h3, h4⟩ := gapTo_spec (s := t + c.p) fit l.g2
  have top : ∀ s, inGap c y.1 s = true → pushF c x y s ≤ t → s ≤ gapTo c y.1 (t + c.p) := fun s hs hq => by
    have := pushF_lo (s := s) fit l
    exact gapTo_ge fit l.g2 (by omega) hs
  obtain ⟨b1, b2⟩ := pullB_ok (t := t) fit l
  exact ⟨h3, top _ b1 b2, top⟩
theorem pullI_step {f : Int} (fit : c.Fit) (l : Leans c x y) (h : PullI c x y t (pullB c y t) f) (hf : t < pushF c x y f) : PullI c x y t (pullB c y t) (gapTo c y.1 (f - 1)) ∧ gapTo c y.1 (f - 1) < f := by
  obtain ⟨h1, h2, h3, h4⟩ := gapTo_spec (s := f - 1) fit l.g2
  have top : ∀ s, inGap c y.1 s = true → pushF c x y s ≤ t → s ≤ gapTo c y.1 (f - 1) := fun s hs hq => by
    have h5 := h.top s hs hq
    have ne : s ≠ f := fun z => by rw [z] at hq; omega
    exact gapTo_ge fit l.g2 (by omega) hs
  obtain ⟨b1, b2⟩ := pullB_ok (t := t) fit l
  exact ⟨⟨h3, top _ b1 b2, top⟩, by omega⟩
end
/-! ### closed, and greatest -/
structure Cu (c : Clk) (G : List Ex2) (L : List (Ex2 × Ex2)) (t1 : Int) (y : Ex2 → Int) : Prop where
  hi : ∀ q ∈ G, y q ≤ t1
  gap : ∀ q ∈ G, inGap c q.1 (y q) = true
  push : ∀ l ∈ L, pushF c l.1 l.2 (y l.2) ≤ y l.1
structure DnI (c : Clk) (G : List Ex2) (L : List (Ex2 × Ex2)) (t1 : Int) (x : Ex2 → Int) : Prop where
  hi : ∀ q ∈ G, x q ≤ t1
  gap : ∀ q ∈ G, inGap c q.1 (x q) = true
  top : ∀ y, Cu c G L t1 y → ∀ q ∈ G, y q ≤ x q
def DnPost (c : Clk) (G : List Ex2) (L : List (Ex2 × Ex2)) (t1 : Int) : Option (Ex2 → Int) → Prop
  | some x => DnI c G L t1 x ∧ Cu c G L t1 x
  | none => ∃ a ∈ G, ∀ y, Cu c G L t1 y → y a < 0
section
variable {c : Clk} {G : List Ex2} {L : List (Ex2 × Ex2)} {t1 : Int} {x : Ex2 → Int}
theorem dnI_start (fit : c.Fit) (ok : OkL c G L) : DnI c G L t1 fun q => gapTo c q.1 t1 where
  hi q hq := (gapTo_spec fit (ok.g q hq)).1
  gap q hq := (gapTo_spec fit (ok.g q hq)).2.2.1
  top y hy q hq := gapTo_ge fit (ok.g q hq) (hy.hi q hq) (hy.gap q hq)
theorem dnI_step {v : Int} (fit : c.Fit) (ok : OkL c G L) (h : DnI c G L t1 x) {l : Ex2 × Ex2} (hl : l ∈ L) (hv : Pull c l.1 l.2 (x l.1) v) (hx : v < x l.2) : DnI c G L t1 (upd x l.2 v) where
  hi q hq := by
    unfold upd
    have := h.hi q hq
    split
    · rename_i e
      rw [e] at this
      omega
    · exact this
  gap q hq := by
    unfold upd
    split
    · rename_i e
      rw [e]
      exact hv.gap
    · exact h.gap q hq
  top y hy q hq := by
    unfold upd
    split
    · rename_i e
      rw [e]
      refine hv.top _ (hy.gap _ (ok.l l hl).2.1) ?_
      exact Int.le_trans (hy.push l hl) (h.top y hy _ (ok.l l hl).1)
    · exact h.top y hy q hq
/-- a pass over the leans: some change or none -/
structure ForD (c : Clk) (G : List Ex2) (L : List (Ex2 × Ex2)) (t1 : Int) (x0 : Ex2 → Int) (i : Nat) (x : Ex2 → Int) (ch : Bool) : Prop where
  dn : DnI c G L t1 x
  le : ∀ q ∈ G, x q ≤ x0 q
  lt : ch = true → ∃ a ∈ G, x a < x0 a
  no : ch = false → ∀ j l, j < i → L[j]? = some l → pushF c l.1 l.2 (x l.2) ≤ x l.1
theorem ForD.keep {x0 : Ex2 → Int} {i : Nat} {ch : Bool} {l : Ex2 × Ex2} {v : Int} (fit : c.Fit) (ok : OkL c G L) (h : ForD c G L t1 x0 i x ch) (hi : L[i]? = some l) (hv : Pull c l.1 l.2 (x l.1) v) (hl : x l.2 ≤ v) : ForD c G L t1 x0 (i + 1) x ch := ⟨h.dn, h.le, h.lt, fun q j l' hj e => by
  rcases Nat.lt_succ_iff_lt_or_eq.mp hj with z | z
  · exact h.no q j l' z e
  · rw [z, hi] at e
    cases e
    exact Int.le_trans (pushF_mono fit (ok.l l (List.mem_of_getElem? hi)).2.2 hl) hv.le⟩
theorem ForD.step {x0 : Ex2 → Int} {i : Nat} {ch : Bool} {l : Ex2 × Ex2} {v : Int} (fit : c.Fit) (ok : OkL c G L) (h : ForD c G L t1 x0 i x ch) (hi : L[i]? = some l) (hv : Pull c l.1 l.2 (x l.1) v) (hl : v < x l.2) : ForD c G L t1 x0 (i + 1) (upd x l.2 v) true := by
  have m := List.mem_of_getElem? hi
  refine ⟨dnI_step fit ok h.dn m hv hl, fun q hq => ?_, fun _ => ⟨l.2, (ok.l l m).2.1, ?_⟩, fun q => nomatch q⟩
  · unfold upd
    have := h.le q hq
    split
    · rename_i e
      rw [e] at this ⊢
      omega
    · exact this
  · unfold upd
    rw [if_pos rfl]
    have := h.le l.2 (ok.l l m).2.1
    omega
def mDn (x : Ex2 → Int) (G : List Ex2) : Nat := meas (fun q => (x q).toNat) G
theorem ForD.fin {x0 : Ex2 → Int} {ch : Bool} (h : ForD c G L t1 x0 L.length x ch) (hp : ∀ q ∈ G, 0 ≤ x q) : DnI c G L t1 x ∧ (ch = false → Cu c G L t1 x) ∧ 2 * mDn x G + ch.toNat < 2 * mDn x0 G + 1 := by
  have h1 : mDn x G ≤ mDn x0 G := meas_le fun q hq => by
    have := h.le q hq
    omega
  refine ⟨h.dn, fun q => ⟨h.dn.hi, h.dn.gap, fun l hl => ?_⟩, ?_⟩
  · obtain ⟨j, hj, e⟩ := List.getElem_of_mem hl
    exact h.no q j l hj (by rw [← e]; exact List.getElem?_eq_getElem hj)
  · cases ch with
    | false =>
      show 2 * mDn x G + 0 < _
      omega
    | true =>
      obtain ⟨a, ha, hlt⟩ := h.lt rfl
      have h2 : mDn x G < mDn x0 G := meas_lt (a := a) (fun q hq => by
        have := h.le q hq
        omega) ha (by
        have := hp a ha
        omega)
      show 2 * mDn x G + 1 < _
      omega
end
end MA
end
section
set_option Elab.async false
set_option linter.all false
set_option autoImplicit false
set_option maxRecDepth 100000
set_option maxHeartbeats 2000000
/-! The defs: earliest, the pulls, the most ticks, latest. -/
namespace DL
open PySem PySem.Spec L2
open PyProof.Rows hiding St
open MA
def plD (c : Clk) : Option (Ex2 → Int) → D
  | none => .none
  | some x => .tuple ((planX c.eds x).map dI)
section
variable {T : Addr → Prop} {P : Program} {w : World} {K : PySem.W.Frag} {mg : Str → Option Value} {base : Heap}
open LHead
def spEarliest : SpP := fun as S => ∃ c : Clk, as = [.dat (dC c)] ∧ c.Fit ∧ ∀ r, leastPost c r → S (plD c r)
theorem fn_earliest (W : Wd T K mg base) : Fn T P w K mg base 5 "earliest" spEarliest [] := by
  have hN : (["clock", "ticks"] : List Str).Nodup := by decide +kernel
  obtain ⟨fd, hm, F⟩ := (W.dv 19 _ rfl).ex
  refine Fn.make (N := ["clock", "ticks"]) (ps := ["clock"]) F hm ⟨rfl, rfl, rfl, by decide +kernel, rfl, by decide +kernel, by decide +kernel⟩ ?_ (fun _ _ _ _ _ _ us hl => match us, hl with | [_], _ => rfl) ?_
  · rintro as S ⟨c, rfl, _⟩
    exact ⟨rfl, by simp [Ent.isOwn]⟩
  · rintro cdv A outer s H E hr as S ⟨c, rfl, fit, hS⟩
    refine ex_expr (ev_callD (fn_clock W) (hr.mono (by decide)) (ar_cons (ev_nm 0) ar_nil) ⟨c, rfl, fit.ok, fit.b, trivial⟩) ?_
    refine ex_set 1 hN (S := fun d => ∃ r, leastPost c r ∧ d = tkD (everyEx c.eds) r) (ev_callD (fn_leastTicks W) (hr.mono (by decide)) (ar_cons (ev_nm 0) ar_nil) ⟨c, rfl, fit, fun r hr' => ⟨r, hr', rfl⟩⟩) ?_
    rintro d ⟨r, hp, rfl⟩
    have h := hS r hp
    cases r with
    | none =>
      refine ex_ret (ev_ifE (A := Eq true) ?_ (fun _ => Ev.imp ev_non fun d e => by rw [← e]; exact h) (fun q => nomatch q))
      exact Cv.tvb (cv_isN (d := .none) (ev_nm 1)) rfl
    | some x =>
      refine ex_ret (ev_ifE (A := Eq false) ?_ (fun q => nomatch q) (fun _ => ?_))
      · exact Cv.tvb (cv_isN (d := dicD (mkT (everyEx c.eds) x)) (ev_nm 1)) rfl
      exact (ev_callD (fn_plan W) (hr.mono (by decide)) (ar_cons (ev_nm 0) (ar_cons (ev_nm 1) ar_nil)) ⟨c, mkT (everyEx c.eds) x, x, rfl, fit.ok.eds.few, fit.ok.eds.num, fun q hq => lk_some hq, h⟩)
def spBefore : SpP := fun as S => ∃ b : Int, as = [.dat (.int b)] ∧ 1 ≤ b ∧ b ≤ 60 ∧ S .none
theorem fn_before (W : Wd T K mg base) : Fn T P w K mg base 2 "need_before" spBefore [] := by
  have hN : (["before"] : List Str).Nodup := by decide +kernel
  obtain ⟨fd, hm, F⟩ := (W.dv 20 _ rfl).ex
  obtain ⟨t, ht⟩ := W.g.before
  refine Fn.make (N := ["before"]) (ps := ["before"]) F hm ⟨rfl, rfl, rfl, by decide +kernel, rfl, by decide +kernel, by decide +kernel⟩ ?_ (fun _ _ _ _ _ _ us hl => match us, hl with | [_], _ => rfl) ?_
  · rintro as S ⟨l, rfl, _⟩
    exact ⟨rfl, by simp [Ent.isOwn]⟩
  · rintro cdv A outer s H E hr as S ⟨b, rfl, h1, h2, hS⟩
    refine ex_no _ (tv_notb (tv_b (ev_num (fn_number W) hr (ev_nm 0) ev_int (ev_globI ht)))) (by rw [decide_eq_true h1, decide_eq_true h2]; rfl) (ex_nil hS)
def spGapTo : SpP := fun as S => ∃ (c : Clk) (v t : Int), as = [.dat (dC c), .dat (.int v), .dat (.int t)] ∧ c.Fit ∧ Goes c v ∧ S (.int (gapTo c v t))
theorem fn_gapTo (W : Wd T K mg base) : Fn T P w K mg base 1 "gap_to" spGapTo [] := by
  have hN : (["clock", "wheel", "tick", "found"] : List Str).Nodup := by decide +kernel
  obtain ⟨fd, hm, F⟩ := (W.dv 21 _ rfl).ex
  refine Fn.make (N := ["clock", "wheel", "tick", "found"]) (ps := ["clock", "wheel", "tick"]) F hm ⟨rfl, rfl, rfl, by decide +kernel, rfl, by decide +kernel, by decide +kernel⟩ ?_ (fun _ _ _ _ _ _ us hl => match us, hl with | [_, _, _], _ => rfl) ?_
  · rintro as S ⟨c, v, t, rfl, _⟩
    exact ⟨rfl, by simp [Ent.isOwn]⟩
  · rintro cdv A outer s H E hr as S ⟨c, v, t, rfl, fit, hv, hS⟩
    have hp : 0 < c.p := by have := fit.ok.p1; omega
    refine ex_setD 3 hN (ev_nm 2) ?_
    refine ex_while (n := c.p.toNat) (fun m e => ∃ f : Int, e = [.dat (dC c), .dat (.int v), .dat (.int t), .dat (.int f)] ∧ prv (inGap c v) m f = gapTo c v t ∧ ∃ s, s ≤ f ∧ f < s + m ∧ inGap c v s = true) .never ⟨t, rfl, rfl, fit.ok.gapHitD hv.h0 hv.h1 hv.h2 t⟩ ?_
    rintro m es' ⟨f, rfl, hf, hs⟩
    refine ⟨Eq (!inGap c v f), Cv.tvb (cv_niI false (ev_mod hp (ev_nm 3) (ev_ixT (ev_nm 0).r ev_int rfl)) (Ev.r (ev_ixT (ev_ixT (ev_nm 0).r ev_int rfl).r (ev_nm 1) (atGap fit.ok hv.h0 hv.h1)))) rfl, fun q => ?_, fun q => ?_⟩
    · have q' : inGap c v f = false := by simpa using q
      obtain ⟨s', s1, s2, s3⟩ := hs
      cases m with
      | zero => simp at s2; omega
      | succ m =>
        have ne : s' ≠ f := fun z => by rw [z, q'] at s3; cases s3
        refine ex_augI 3 ip_sub hN rfl ev_int (ex_nil ⟨m, Nat.lt_succ_self m, f - 1, rfl, ?_, s', by omega, by omega, s3⟩)
        rw [← hf]
        show _ = prv _ (m + 1) f
        rw [prv, if_neg (by rw [q']; decide)]
    · have q' : inGap c v f = true := by simpa using q
      refine ex_ret (Ev.imp (ev_nm 3) fun d e => ?_)
      rw [← e, show f = gapTo c v t from by rw [← hf, prv_hit q']]
      exact hS
def spPull : SpP := fun as S => ∃ (c : Clk) (x y : Ex2) (t : Int), as = [.dat (dC c), .dat (d2 x), .dat (d2 y), .dat (.int t)] ∧ c.Fit ∧ Leans c x y ∧ ∀ r, Pull c x y t r → S (.int r)
theorem fn_pull (W : Wd T K mg base) : Fn T P w K mg base 4 "pulled" spPull [] := by
  have hN : (["clock", "exchange", "other", "tick", "found"] : List Str).Nodup := by decide +kernel
  obtain ⟨fd, hm, F⟩ := (W.dv 22 _ rfl).ex
  refine Fn.make (N := ["clock", "exchange", "other", "tick", "found"]) (ps := ["clock", "exchange", "other", "tick"]) F hm ⟨rfl, rfl, rfl, by decide +kernel, rfl, by decide +kernel, by decide +kernel⟩ ?_ (fun _ _ _ _ _ _ us hl => match us, hl with | [_, _, _, _], _ => rfl) ?_
  · rintro as S ⟨c, a, b, t, rfl, _⟩
    exact ⟨rfl, by simp [Ent.isOwn]⟩
  · rintro cdv A outer s H E hr as S ⟨c, x, y, t, rfl, fit, hv, hS⟩
    refine ex_setD 4 hN (ev_callD (fn_gapTo W) (hr.mono (by decide)) (ar_cons (ev_nm 0) (ar_cons (ev_ixT (ev_nm 2).r ev_int rfl) (ar_cons (ev_add (ev_nm 3) (ev_ixT (ev_nm 0).r ev_int rfl)) ar_nil))) ⟨c, y.1, t + c.p, rfl, fit, hv.g2, rfl⟩) ?_
    refine ex_while (n := (gapTo c y.1 (t + c.p) - pullB c y t).toNat) (fun m e => ∃ f : Int, e = [.dat (dC c), .dat (d2 x), .dat (d2 y), .dat (.int t), .dat (.int f)] ∧ PullI c x y t (pullB c y t) f ∧ m = (f - pullB c y t).toNat) .never ⟨_, rfl, pullI_start fit hv, rfl⟩ ?_
    rintro m es' ⟨f, rfl, hf, hm'⟩
    refine ⟨Eq (decide (t < pushF c x y f)), Cv.tvb (cv_gt (ev_callD (fn_push W) (hr.mono (by decide)) (ar_cons (ev_nm 0) (ar_cons (ev_nm 1) (ar_cons (ev_nm 2) (ar_cons (ev_nm 4) ar_nil)))) ⟨c, x, y, f, rfl, fit, hv, rfl⟩) (ev_nm 3)) rfl, fun q => ?_, fun q => ?_⟩
    · have q' := of_decide_eq_true q
      obtain ⟨h1, h2⟩ := pullI_step fit hv hf q'
      refine ex_setD 4 hN (ev_callD (fn_gapTo W) (hr.mono (by decide)) (ar_cons (ev_nm 0) (ar_cons (ev_ixT (ev_nm 2).r ev_int rfl) (ar_cons (ev_sub (ev_nm 4) ev_int) ar_nil))) ⟨c, y.1, f - 1, rfl, fit, hv.g2, rfl⟩) (ex_nil ⟨_, ?_, _, rfl, h1, rfl⟩)
      have := h1.lo
      omega
    · have q' := of_decide_eq_false q
      exact ex_ret (Ev.imp (ev_nm 4) fun d e => by rw [← e]; exact hS f ⟨hf.gap, by omega, hf.top⟩)
end
end DL
end
section
set_option Elab.async false
set_option linter.all false
set_option autoImplicit false
set_option maxRecDepth 100000
set_option maxHeartbeats 2000000
/-! Plain: what the least needed is. -/
namespace MA
theorem foldl_max_le {l : List Int} : ∀ {a b : Int}, l.foldl max a ≤ b ↔ a ≤ b ∧ ∀ x ∈ l, x ≤ b := by
  induction l with
  | nil => intro a b; simp
  | cons y l ih =>
    intro a b
    rw [List.foldl_cons, ih]
    simp only [List.mem_cons, forall_eq_or_imp]
    constructor
    · rintro ⟨h1, h2⟩
      exact ⟨by omega, by omega, h2⟩
    · rintro ⟨h1, h2, h3⟩
      exact ⟨by omega, h3⟩
theorem foldl_max_mem {l : List Int} : ∀ {a : Int}, l.foldl max a = a ∨ l.foldl max a ∈ l := by
  induction l with
  | nil => intro a; exact .inl rfl
  | cons y l ih =>
    intro a
    rw [List.foldl_cons]
    rcases ih (a := max a y) with h | h
    · rw [h]
      by_cases q : a ≤ y
      · rw [Int.max_eq_right q]
        exact .inr List.mem_cons_self
      · rw [Int.max_eq_left (by omega)]
        exact .inl rfl
    · exact .inr (List.mem_cons_of_mem _ h)
theorem maxI_le {x b : Int} {l : List Int} : maxI (x :: l) ≤ b ↔ x ≤ b ∧ ∀ y ∈ l, y ≤ b := foldl_max_le
theorem maxI_mem {x : Int} {l : List Int} : maxI (x :: l) ∈ x :: l := by
  rcases foldl_max_mem (l := l) (a := x) with h | h
  · show l.foldl max x ∈ _
    rw [h]
    exact List.mem_cons_self
  · exact List.mem_cons_of_mem _ h
theorem le_maxI {x y : Int} {l : List Int} (h : y ∈ x :: l) : y ≤ maxI (x :: l) := by
  have := (maxI_le (x := x) (l := l) (b := maxI (x :: l))).mp (Int.le_refl _)
  rcases List.mem_cons.mp h with e | e
  · rw [e]
    exact this.1
  · exact this.2 y e
/-- the entry asks of wheel w at e that o be at least n -/
def Asks (c : Clk) (w e o n : Int) : Prop := ∃ b ∈ c.bk, b.1 = w ∧ b.2.2.1 = o ∧ b.2.1 ≤ e ∧ b.2.2.2 = n
theorem mem_asks {c : Clk} {w e o n : Int} : n ∈ ((c.bk.filter fun b => decide (b.1 = w) && decide (b.2.2.1 = o)).filter fun b => decide (b.2.1 ≤ e)).map (·.2.2.2) ↔ Asks c w e o n := by
  rw [List.mem_map]
  constructor
  · rintro ⟨b, hb, rfl⟩
    obtain ⟨h1, h2⟩ := List.mem_filter.mp hb
    obtain ⟨h3, h4⟩ := List.mem_filter.mp h1
    rw [Bool.and_eq_true, decide_eq_true_iff, decide_eq_true_iff] at h4
    exact ⟨b, h3, h4.1, h4.2, of_decide_eq_true h2, rfl⟩
  · rintro ⟨b, h1, h2, h3, h4, rfl⟩
    exact ⟨b, List.mem_filter.mpr ⟨List.mem_filter.mpr ⟨h1, by rw [h2, h3]; simp⟩, decide_eq_true h4⟩, rfl⟩
theorem leastN_iff {c : Clk} {w e o m : Int} : leastN c w e o ≤ m ↔ 0 ≤ m ∧ ∀ n, Asks c w e o n → n ≤ m := by
  unfold leastN
  rw [maxI_le]
  constructor
  · rintro ⟨h1, h2⟩
    exact ⟨h1, fun n hn => h2 n (mem_asks.mpr hn)⟩
  · rintro ⟨h1, h2⟩
    exact ⟨h1, fun n hn => h2 n (mem_asks.mp hn)⟩
theorem leastN_asks {c : Clk} {w e o : Int} (h : leastN c w e o ≠ 0) : Asks c w e o (leastN c w e o) := by
  have := maxI_mem (x := 0) (l := ((c.bk.filter fun b => decide (b.1 = w) && decide (b.2.2.1 = o)).filter fun b => decide (b.2.1 ≤ e)).map (·.2.2.2))
  rcases List.mem_cons.mp this with q | q
  · exact absurd q h
  · exact mem_asks.mp q
theorem leastN_nn {c : Clk} {w e o : Int} : 0 ≤ leastN c w e o := (leastN_iff.mp (Int.le_refl _)).1
theorem asks_le {c : Clk} {w e o n : Int} (h : Asks c w e o n) : n ≤ leastN c w e o := (leastN_iff.mp (Int.le_refl _)).2 n h
theorem leastN_mono {c : Clk} {w e e' o : Int} (h : e ≤ e') : leastN c w e o ≤ leastN c w e' o := leastN_iff.mpr ⟨leastN_nn, fun n ⟨b, h1, h2, h3, h4, h5⟩ => asks_le ⟨b, h1, h2, h3, by omega, h5⟩⟩
theorem leastN_le {c : Clk} {w e o : Int} (ok : BkOk c.eds c.bk) (h : 0 < leastN c w e o) : leastN c w e o ≤ gI c.eds o := by
  obtain ⟨b, h1, h2, h3, h4, h5⟩ := leastN_asks (by omega : leastN c w e o ≠ 0)
  have := ok.num b h1
  rw [← h5, ← h3]
  omega
end MA
end
section
set_option Elab.async false
set_option linter.all false
set_option autoImplicit false
set_option maxRecDepth 100000
set_option maxHeartbeats 2000000
/-! The defs: the most ticks, latest. -/
namespace DL
open PySem PySem.Spec L2
open PyProof.Rows hiding St
open MA
section
variable {T : Addr → Prop} {P : Program} {w : World} {K : PySem.W.Frag} {mg : Str → Option Value} {base : Heap}
open LHead
theorem sw_trueD {kx vx : Expr} {gs : List Comprehension} {scope : Scope} {pos py : Pos} {y : Str} {l : Nat} {env : Env} (hk : env.scope.kind = .function) (hy : env.scope.names.lookup y = some .local) (hl : (py.line == pos.line) = true)
    (ha : (scope.names.any fun (n, k) => n == y && (k == .local || k == .cell)) = false) : swapsWith (.DictComp kx vx gs scope pos) (some (.Name y py)) l env = pure true := by
  have ky : env.kindOf y = some .local := hy
  have hb : env.blockKind = .function := by unfold Env.blockKind; rw [hk]; rfl
  unfold swapsWith
  simp only [hb, ky, ha, Expr.pos, hl]
  rfl
theorem aa_any {n : Nat} {tr : Nat → Bool} : aa false n tr = true ↔ ∃ i, i < n ∧ tr i = true := by
  unfold aa
  rw [if_neg (by decide), List.any_eq_true]
  constructor
  · rintro ⟨i, hi, h⟩
    exact ⟨i, List.mem_range.mp hi, h⟩
  · rintro ⟨i, hi, h⟩
    exact ⟨i, List.mem_range.mpr hi, h⟩
theorem mkT_at {G : List Ex2} {x : Ex2 → Int} {i : Nat} {q : List Int × Int} (h : (mkT G x)[i]? = some q) : ∃ e, G[i]? = some e ∧ q = ([e.1, e.2], x e) := by
  unfold mkT at h
  rw [List.getElem?_map] at h
  obtain ⟨e, h1, h2⟩ := Option.map_eq_some_iff.mp h
  exact ⟨e, h1, h2.symm⟩
def mostPost (c : Clk) (t1 : Int) (r : Option (Ex2 → Int)) : Prop := DnPost c (everyEx c.eds) (everyLean c) t1 r
theorem lean_ok {c : Clk} (fit : c.Fit) : OkL c (everyEx c.eds) (everyLean c) where
  g q hq := goes_of hq
  l l hl := by
    obtain ⟨h1, h3⟩ := mem_everyLean.mp hl
    have h2 : l.2 ∈ everyEx c.eds := by
      obtain ⟨a1, a2, a3, a4⟩ := mem_everyEx.mp h1
      rcases h3 with ⟨b1, b2⟩ | ⟨b1, b2, b3, b4, b5, b6⟩
      · rw [b2]
        exact mem_everyEx.mpr ⟨a1, a2, by show (1 : Int) ≤ l.1.2 - 1; omega, by show l.1.2 - 1 ≤ gI c.eds l.1.1; omega⟩
      · refine mem_everyEx.mpr ⟨b2, b3, by omega, ?_⟩
        rw [b6]
        exact leastN_le fit.ok.bk b5
    refine ⟨h1, h2, goes_of h1, goes_of h2, fun ne => ?_⟩
    rcases h3 with ⟨_, h4⟩ | h4
    · exact absurd (by rw [h4]) ne
    · exact h4.2.2.2.1
def spMost : SpP := fun as S => ∃ (c : Clk) (b : Int), as = [.dat (dC c), .dat (.int b)] ∧ c.Fit ∧ ∀ r, mostPost c (b - 1) r → S (tkD (everyEx c.eds) r)
theorem fn_most (W : Wd T K mg base) : Fn T P w K mg base 5 "most_ticks" spMost [] := by
  have hN : (["clock", "before", "ticks", "leans", "changed", "one", "other", "most", "exchange"] : List Str).Nodup := by decide +kernel
  obtain ⟨fd, hm, F⟩ := (W.dv 23 _ rfl).ex
  obtain ⟨hT, hB⟩ := W.tb 4 _ rfl
  refine Fn.makeC (d := d_most_ticks) (N := ["clock", "before", "ticks", "leans", "changed", "one", "other", "most", "exchange"]) (ps := ["clock", "before"]) F hm ⟨rfl, rfl, rfl, by decide +kernel, rfl, by decide +kernel, by decide +kernel⟩ ?_ (fun _ _ _ _ _ _ us hl => match us, hl with | [_, _], _ => rfl) ?_
  · rintro as S ⟨c, b, rfl, _⟩
    exact ⟨rfl, by simp [Ent.isOwn]⟩
  · rintro A outer s H E hr as S ⟨c, b, rfl, fit, hS⟩
    have h48 := everyEx_len' fit
    have hG := everyEx_nodup c.eds
    have ok := lean_ok fit
    have lnl := everyLean_len fit.ok.eds.few fit.ok.eds.num
    have hgap : ∀ q ∈ everyEx c.eds, Goes c q.1 := fun q h => goes_of h
    unfold mostPost at hS
    refine ex_setDc 2 (own := [("exchange", 8)]) (enc := d2) (L := everyEx c.eds) (kf := fun q => [q.1, q.2]) (vf := fun q => gapTo c q.1 (b - 1)) hr hN rfl (blkOk_by (by kernel_rfl)) (wk_lst (ev_callD (fn_every W) (hr.mono (by decide)) (ar_cons (ev_nm 0) ar_nil) ⟨c, rfl, fit.ok.eds.few, fit.ok.eds.num, rfl⟩)) (sz (by omega)) (fun q _ => List.cons_ne_nil _ _) (fun q hq => ⟨[.dat (dC c), .dat (.int b), .unk, .unk, .unk, .unk, .unk, .unk, .dat (d2 q)], fun s H c' cl fp => ⟨bd_nm 8 hN, ev_nm 8, ev_callD (fn_gapTo W) (hr.mono (by decide)) (ar_cons (ev_nm 0) (ar_cons (ev_ixT (ev_nm 8).r ev_int rfl) (ar_cons (ev_sub (ev_nm 1) ev_int) ar_nil))) ⟨c, q.1, b - 1, rfl, fit, hgap q hq, rfl⟩⟩⟩) ?_ (sw_trueD rfl rfl rfl (by decide +kernel))
    rw [dicOf_mk hG]
    refine ex_par 3 4 rfl hN (evn_d (ev_callD (fn_leans W) (hr.mono (by decide)) (ar_cons (ev_nm 0) ar_nil) ⟨c, rfl, fit, rfl⟩)) (evn_d ev_bl) ?_
    generalize b - 1 = t1 at hS ⊢
    generalize everyLean c = L at hS ok lnl ⊢
    generalize everyEx c.eds = G at hS ok h48 hG hgap ⊢
    refine ex_while (n := 2 * mDn (fun q => gapTo c q.1 t1) G + 1) (fun m e => ∃ (x : Ex2 → Int) (ch : Bool) (z5 z6 z7 : Ent), e = [.dat (dC c), .dat (.int b), .dic (mkT G x), .dat (.list (L.map dLn)), .dat (.bool ch), z5, z6, z7, .unk] ∧ DnI c G L t1 x ∧ (ch = false → Cu c G L t1 x) ∧ m = 2 * mDn x G + ch.toNat) .never ⟨_, true, .unk, .unk, .unk, rfl, dnI_start fit ok, (fun q => nomatch q), rfl⟩ ?_
    rintro m es' ⟨x, ch, z5, z6, z7, rfl, hu, hc, hmm⟩
    refine ⟨Eq ch, tv_b (ev_nm 4), fun q => ?_, fun q => ?_⟩
    · subst q
      refine ex_setD 4 hN ev_bl ?_
      refine ex_forD [5, 6] (enc := dLn) (L := L) (fun i e => ∃ (x' : Ex2 → Int) (ch : Bool) (z5 z6 z7 : Ent), e = [.dat (dC c), .dat (.int b), .dic (mkT G x'), .dat (.list (L.map dLn)), .dat (.bool ch), z5, z6, z7, .unk] ∧ ForD c G L t1 x i x' ch) .never rfl (wk_lst (ev_nm 3)) ⟨x, false, z5, z6, z7, rfl, hu, (fun _ _ => Int.le_refl _), (fun q => nomatch q), fun _ j l hj _ => absurd hj (Nat.not_lt_zero _)⟩ ?_ ?_
      · rintro i l es' hi ⟨x', ch, z5, z6, z7, rfl, hf⟩
        obtain ⟨la, lb, hl⟩ := ok.l l (List.mem_of_getElem? hi)
        refine ⟨_, bd_tup rfl (Bds.cons rfl (bd_nm 5 hN) (Bds.cons rfl (bd_nm 6 hN) .nil)), ?_⟩
        refine ex_set 7 hN (S := fun d => ∃ r, Pull c l.1 l.2 (x' l.1) r ∧ d = .int r) (ev_callD (fn_pull W) (hr.mono (by decide)) (ar_cons (ev_nm 0) (ar_cons (ev_nm 5) (ar_cons (ev_nm 6) (ar_cons (ev_dget (k := [l.1.1, l.1.2]) hr (evr_dic 2) (ev_nm 5) (lk_some la)) ar_nil)))) ⟨c, l.1, l.2, x' l.1, rfl, fit, hl, fun r hp => ⟨r, hp, rfl⟩⟩) ?_
        rintro d ⟨v, hv, rfl⟩
        refine ex_if (A := Eq (decide (v < x' l.2))) (Cv.tvb (cv_lt (ev_nm 7) (ev_dget (k := [l.2.1, l.2.2]) hr (evr_dic 2) (ev_nm 6) (lk_some lb))) rfl) (fun q => ?_) (fun q => ?_)
        · have q' := of_decide_eq_true q
          refine ex_put 2 (k := [l.2.1, l.2.2]) hr rfl rfl (.inl rfl) (ev_nm 7) (ev_nm 6) ?_ (by rw [mkT_len]; exact Nat.lt_of_le_of_lt h48 (by decide))
          rw [put_mk lb]
          exact ex_setD 4 hN ev_bl (ex_nil (ex_nil ⟨_, true, _, _, _, rfl, hf.step fit ok hi hv q'⟩))
        · have q' := of_decide_eq_false q
          exact ex_nil (ex_nil ⟨x', ch, _, _, _, rfl, hf.keep fit ok hi hv (by omega)⟩)
      · rintro es' ⟨x', ch, z5, z6, z7, rfl, hf⟩
        refine ex_if (A := Eq (aa false (mkT G x').length fun i => decide (((mkT G x').getD i ([], 0)).2 < 0))) (tv_b (ev_genV false hr rfl W.g.any hT hB rfl (genS_of rfl rfl (by decide +kernel) rfl rfl (by decide +kernel)) (evr_dic 2) ?_ rfl)) (fun q => ?_) (fun q => ?_)
        · intro i q env m h v hq hs L hmv rv
          have e1 : (mkT G x').getD i ([], 0) = q := by rw [List.getD_eq_getElem?_getD, hq]; rfl
          rw [e1]
          exact le_lt (le_nm L hmv rv (kd_of hs rfl)) le_int
        · obtain ⟨i, hi, ht⟩ := aa_any.mp q
          obtain ⟨e, he, eq⟩ := mkT_at (List.getElem?_eq_getElem hi)
          refine ex_ret (Ev.imp ev_non fun d z => ?_)
          rw [← z]
          refine hS none ⟨e, List.mem_of_getElem? he, fun y hy => ?_⟩
          have h1 := hf.dn.top y hy e (List.mem_of_getElem? he)
          have h2 : (mkT G x').getD i ([], 0) = ([e.1, e.2], x' e) := by rw [List.getD_eq_getElem?_getD, List.getElem?_eq_getElem hi, eq]; rfl
          have h3 := of_decide_eq_true ht
          rw [h2] at h3
          have h4 : x' e < 0 := h3
          omega
        · have hp : ∀ q ∈ G, 0 ≤ x' q := fun e he => by
            obtain ⟨i, hi, ei⟩ := List.getElem_of_mem he
            by_cases n : x' e < 0
            · have : aa false (mkT G x').length (fun i => decide (((mkT G x').getD i ([], 0)).2 < 0)) = true := aa_any.mpr ⟨i, by rw [mkT_len]; exact hi, decide_eq_true (by
                have : (mkT G x').getD i ([], 0) = ([e.1, e.2], x' e) := by
                  unfold mkT
                  rw [List.getD_eq_getElem?_getD, List.getElem?_map, List.getElem?_eq_getElem hi, ei]
                  rfl
                rw [this]
                exact n)⟩
              rw [this] at q
              cases q
            · omega
          obtain ⟨f1, f2, f3⟩ := hf.fin hp
          exact ex_nil (ex_nil ⟨_, by rw [hmm]; exact f3, x', ch, z5, z6, z7, rfl, f1, f2, rfl⟩)
    · subst q
      exact ex_retR (EvR.imp (evr_dic 2) fun d e => by rw [← e]; exact hS (some x) ⟨hu, hc rfl⟩)
def spLatest : SpP := fun as S => ∃ (c : Clk) (b : Int), as = [.dat (dC c), .dat (.int b)] ∧ c.Fit ∧ 1 ≤ b ∧ b ≤ 60 ∧ ∀ r, mostPost c (b - 1) r → S (plD c r)
theorem fn_latest (W : Wd T K mg base) : Fn T P w K mg base 6 "latest" spLatest [] := by
  have hN : (["clock", "before", "ticks"] : List Str).Nodup := by decide +kernel
  obtain ⟨fd, hm, F⟩ := (W.dv 24 _ rfl).ex
  refine Fn.make (N := ["clock", "before", "ticks"]) (ps := ["clock", "before"]) F hm ⟨rfl, rfl, rfl, by decide +kernel, rfl, by decide +kernel, by decide +kernel⟩ ?_ (fun _ _ _ _ _ _ us hl => match us, hl with | [_, _], _ => rfl) ?_
  · rintro as S ⟨c, b, rfl, _⟩
    exact ⟨rfl, by simp [Ent.isOwn]⟩
  · rintro cdv A outer s H E hr as S ⟨c, b, rfl, fit, b1, b2, hS⟩
    refine ex_expr (ev_callD (fn_clock W) (hr.mono (by decide)) (ar_cons (ev_nm 0) ar_nil) ⟨c, rfl, fit.ok, fit.b, trivial⟩) ?_
    refine ex_expr (ev_callD (fn_before W) (hr.mono (by decide)) (ar_cons (ev_nm 1) ar_nil) ⟨b, rfl, b1, b2, trivial⟩) ?_
    refine ex_set 2 hN (S := fun d => ∃ r, mostPost c (b - 1) r ∧ d = tkD (everyEx c.eds) r) (ev_callD (fn_most W) (hr.mono (by decide)) (ar_cons (ev_nm 0) (ar_cons (ev_nm 1) ar_nil)) ⟨c, b, rfl, fit, fun r hr' => ⟨r, hr', rfl⟩⟩) ?_
    rintro d ⟨r, hp, rfl⟩
    have h := hS r hp
    cases r with
    | none =>
      refine ex_ret (ev_ifE (A := Eq true) ?_ (fun _ => Ev.imp ev_non fun d e => by rw [← e]; exact h) (fun q => nomatch q))
      exact Cv.tvb (cv_isN (d := .none) (ev_nm 2)) rfl
    | some x =>
      refine ex_ret (ev_ifE (A := Eq false) ?_ (fun q => nomatch q) (fun _ => ?_))
      · exact Cv.tvb (cv_isN (d := dicD (mkT (everyEx c.eds) x)) (ev_nm 2)) rfl
      exact (ev_callD (fn_plan W) (hr.mono (by decide)) (ar_cons (ev_nm 0) (ar_cons (ev_nm 2) ar_nil)) ⟨c, mkT (everyEx c.eds) x, x, rfl, fit.ok.eds.few, fit.ok.eds.num, fun q hq => lk_some hq, h⟩)
end
end DL
end
section
set_option Elab.async false
set_option linter.all false
set_option autoImplicit false
set_option maxRecDepth 100000
set_option maxHeartbeats 2000000
/-! Plain: standings, what is still to do, what is due. -/
namespace MA
open DL (Goes Leans lkD putD dicOf KD)
structure StOk (c : Clk) (st : List Int) : Prop where
  len : st.length = c.eds.length
  num : ∀ (i : Nat) (x e : Int), st[i]? = some x → c.eds[i]? = some e → 0 ≤ x ∧ x ≤ e
theorem gI_get {l : List Int} {v : Int} (h0 : 0 ≤ v) (h1 : v < l.length) : l[v.toNat]? = some (gI l v) := by
  have h : v.toNat < l.length := by omega
  unfold gI
  rw [List.getD_eq_getElem?_getD, List.getElem?_eq_getElem h]
  rfl
theorem StOk.at {c : Clk} {st : List Int} (ok : StOk c st) {v : Int} (h0 : 0 ≤ v) (h1 : v < c.eds.length) : 0 ≤ gI st v ∧ gI st v ≤ gI c.eds v :=
  ok.num v.toNat _ _ (gI_get h0 (by rw [ok.len]; exact h1)) (gI_get h0 h1)
def goingOf (c : Clk) (st : List Int) : List Ex2 := (everyEx c.eds).filter fun q => decide (gI st q.1 < q.2)
theorem mem_going {c : Clk} {st : List Int} {q : Ex2} : q ∈ goingOf c st ↔ q ∈ everyEx c.eds ∧ gI st q.1 < q.2 := by
  unfold goingOf
  rw [List.mem_filter, decide_eq_true_iff]
theorem going_nodup {c : Clk} {st : List Int} : (goingOf c st).Nodup := (everyEx_nodup c.eds).filter _
theorem going_len {c : Clk} {st : List Int} : (goingOf c st).length ≤ (everyEx c.eds).length := List.length_filter_le _ _
def nextT (c : Clk) (a b t : Int) : Int := nxt (atTouch c a b) c.p.toNat t
theorem Clk.Ok.touchHit {c : Clk} (ok : c.Ok) {a b : Int} (h : phases c a b ≠ []) (t : Int) : ∃ s, t ≤ s ∧ s < t + c.p.toNat ∧ atTouch c a b s = true := by
  obtain ⟨g, hg⟩ := List.exists_mem_of_ne_nil _ h
  obtain ⟨x, y⟩ := ok.phase hg
  have hp := ok.p1
  obtain ⟨s, s1, s2, s3⟩ := hit_up (t := t) (by omega : 0 < c.p) x y
  exact ⟨s, by omega, by omega, decide_eq_true (by rw [s3]; exact hg)⟩
theorem nextT_spec {c : Clk} (ok : c.Ok) {a b t : Int} (h : phases c a b ≠ []) : t ≤ nextT c a b t ∧ atTouch c a b (nextT c a b t) = true ∧ ∀ u, t ≤ u → atTouch c a b u = true → nextT c a b t ≤ u := by
  obtain ⟨h1, h2, h3, h4⟩ := nxt_spec (P := atTouch c a b) (n := c.p.toNat) (t := t) (ok.touchHit h t)
  refine ⟨h1, h3, fun u hu ht => ?_⟩
  by_cases q : u < nextT c a b t
  · rw [h4 u hu q] at ht
    cases ht
  · omega
/-- q is due by v: o's standing asks for it, and they touch -/
structure Lim (c : Clk) (st : List Int) (t : Int) (q : Ex2) (v : Int) : Prop where
  ex : ∃ o : Int, 0 ≤ o ∧ o < c.eds.length ∧ o ≠ q.1 ∧ q.2 ≤ leastN c o (gI st o) q.1 ∧ phases c q.1 o ≠ [] ∧ v = nextT c q.1 o t
def asksO (c : Clk) (st : List Int) (q : Ex2) (o : Int) : Bool := !decide (o = q.1) && decide (q.2 ≤ leastN c o (gI st o) q.1)
def due1 (c : Clk) (st : List Int) (t : Int) (q : Ex2) (acc : KD) (o : Int) : KD :=
  if asksO c st q o = true ∧ phases c q.1 o ≠ [] then putD acc [q.1, q.2] (min (nextT c q.1 o t) ((lkD acc [q.1, q.2]).getD (nextT c q.1 o t))) else acc
def dueQ (c : Clk) (st : List Int) (t : Int) (acc : KD) (q : Ex2) : KD := (rngI 0 c.eds.length).foldl (due1 c st t q) acc
def dueAll (c : Clk) (st : List Int) (t : Int) (G : List Ex2) : KD := G.foldl (dueQ c st t) []
theorem putD_len (kvs : KD) (k : List Int) (v : Int) : (putD kvs k v).length ≤ kvs.length + 1 := DL.putD_length kvs k v
theorem due1_len {c : Clk} {st : List Int} {t : Int} {q : Ex2} {acc : KD} {o : Int} : (due1 c st t q acc o).length ≤ acc.length + 1 := by
  unfold due1
  split
  · exact putD_len _ _ _
  · omega
theorem due1s_len {c : Clk} {st : List Int} {t : Int} {q : Ex2} : ∀ {l : List Int} {acc : KD}, (l.foldl (due1 c st t q) acc).length ≤ acc.length + l.length
  | [], _ => by simp
  | o :: l, acc => by
    rw [List.foldl_cons, List.length_cons]
    have h1 := due1s_len (c := c) (st := st) (t := t) (q := q) (l := l) (acc := due1 c st t q acc o)
    have h2 := due1_len (c := c) (st := st) (t := t) (q := q) (acc := acc) (o := o)
    omega
theorem dueQs_len {c : Clk} {st : List Int} {t : Int} (h12 : c.eds.length ≤ 12) : ∀ {l : List Ex2} {acc : KD}, (l.foldl (dueQ c st t) acc).length ≤ acc.length + 12 * l.length
  | [], _ => by simp
  | o :: l, acc => by
    rw [List.foldl_cons, List.length_cons]
    have h1 := dueQs_len h12 (c := c) (st := st) (t := t) (l := l) (acc := dueQ c st t acc o)
    have h2 : (dueQ c st t acc o).length ≤ acc.length + 12 := by
      have := due1s_len (c := c) (st := st) (t := t) (q := o) (l := rngI 0 c.eds.length) (acc := acc)
      rw [DL.rngI_len] at this
      unfold dueQ
      omega
    omega
/-! what a fold of puts holds -/
theorem mem_putD {kvs : KD} {k : List Int} {v : Int} {e : List Int × Int} (h : e ∈ putD kvs k v) : e = (k, v) ∨ e ∈ kvs := by
  unfold putD at h
  split at h
  · obtain ⟨e', h1, h2⟩ := List.mem_map.mp h
    by_cases q : e'.1 = k
    · rw [if_pos q] at h2
      exact .inl (by rw [← h2, q])
    · rw [if_neg q] at h2
      exact .inr (by rw [← h2]; exact h1)
  · rcases List.mem_append.mp h with h | h
    · exact .inr h
    · exact .inl (List.mem_singleton.mp h)
theorem lkD_mem {kvs : KD} {k : List Int} {v : Int} (h : lkD kvs k = some v) : (k, v) ∈ kvs := by
  unfold lkD at h
  obtain ⟨e, h1, h2⟩ := Option.map_eq_some_iff.mp h
  have h3 := List.mem_of_find?_eq_some h1
  have h4 := List.find?_some h1
  have h5 : e.1 = k := of_decide_eq_true h4
  rw [← h5, ← h2]
  exact h3
theorem lkD_put {kvs : KD} {k k' : List Int} {v : Int} : lkD (putD kvs k v) k' = if k' = k then some v else lkD kvs k' := by
  unfold putD
  split
  · rename_i hany
    unfold lkD
    rw [List.find?_map]
    have hf : ((fun q : List Int × Int => decide (q.1 = k')) ∘ fun q => if q.1 = k then (q.1, v) else q) = fun q => decide (q.1 = k') := by
      funext q
      by_cases e : q.1 = k
      · simp [Function.comp, if_pos e]
      · simp [Function.comp, if_neg e]
    rw [hf]
    by_cases e : k' = k
    · rw [if_pos e, e]
      obtain ⟨q, hq, hk⟩ := List.any_eq_true.mp hany
      cases hf2 : kvs.find? fun q => decide (q.1 = k) with
      | none =>
        have := List.find?_eq_none.mp hf2 q hq
        exact absurd hk this
      | some r =>
        have := List.find?_some hf2
        have h5 : r.1 = k := of_decide_eq_true this
        simp [h5]
    · rw [if_neg e]
      cases hf2 : kvs.find? fun q => decide (q.1 = k') with
      | none => rfl
      | some r =>
        have := List.find?_some hf2
        have h5 : r.1 = k' := of_decide_eq_true this
        have h6 : ¬ r.1 = k := fun z => e (h5.symm.trans z)
        simp [h6]
  · rename_i hany
    unfold lkD
    rw [List.find?_append]
    by_cases e : k' = k
    · rw [if_pos e, e]
      have : kvs.find? (fun q => decide (q.1 = k)) = none := List.find?_eq_none.mpr fun q hq hk => hany (List.any_eq_true.mpr ⟨q, hq, hk⟩)
      rw [this]
      simp
    · rw [if_neg e]
      have h6 : ¬ k = k' := fun z => e z.symm
      cases hf2 : kvs.find? fun q => decide (q.1 = k') with
      | none => simp [h6]
      | some r => rfl
/-- what the dict of the due holds, so far: each entry is a limit -/
structure DueI (c : Clk) (st : List Int) (t : Int) (G : List Ex2) (D : Ex2 → Int → Prop) (acc : KD) : Prop where
  lim : ∀ e ∈ acc, ∃ q v, e = ([q.1, q.2], v) ∧ q ∈ G ∧ Lim c st t q v
  has : ∀ q v, D q v → ∃ v', lkD acc [q.1, q.2] = some v' ∧ v' ≤ v
theorem due1_I {c : Clk} {st : List Int} {t : Int} {q : Ex2} {acc : KD} {o : Int} {D : Ex2 → Int → Prop} {G : List Ex2} (hG : q ∈ G) (h0 : 0 ≤ o) (h1 : o < c.eds.length) (h : DueI c st t G D acc) :
    DueI c st t G (fun q' v => D q' v ∨ (q' = q ∧ asksO c st q o = true ∧ phases c q.1 o ≠ [] ∧ v = nextT c q.1 o t)) (due1 c st t q acc o) := by
  unfold due1
  split
  · rename_i ha
    obtain ⟨ha, hb⟩ := ha
    have hl : Lim c st t q (nextT c q.1 o t) := by
      unfold asksO at ha
      rw [Bool.and_eq_true, Bool.not_eq_true', decide_eq_false_iff_not, decide_eq_true_iff] at ha
      exact ⟨o, h0, h1, ha.1, ha.2, hb, rfl⟩
    constructor
    · intro e he
      rcases mem_putD he with z | z
      · refine ⟨q, _, z, hG, ?_⟩
        cases hk : lkD acc [q.1, q.2] with
        | none =>
          rw [Option.getD_none, Int.min_self]
          exact hl
        | some v' =>
          rw [Option.getD_some]
          by_cases hm : nextT c q.1 o t ≤ v'
          · rw [Int.min_eq_left hm]
            exact hl
          · rw [Int.min_eq_right (by omega)]
            obtain ⟨q', w, e1, _, e2⟩ := h.lim _ (lkD_mem hk)
            have e3 : ([q.1, q.2] : List Int) = [q'.1, q'.2] := congrArg Prod.fst e1
            have e4 : v' = w := congrArg Prod.snd e1
            rw [key_eq.mp e3, e4]
            exact e2
      · exact h.lim e z
    · rintro q' v (hD | ⟨rfl, _, _, rfl⟩)
      · obtain ⟨v', e1, e2⟩ := h.has q' v hD
        rw [lkD_put]
        split
        · rename_i e
          refine ⟨_, rfl, ?_⟩
          rw [e] at e1
          rw [e1, Option.getD_some]
          omega
        · exact ⟨v', e1, e2⟩
      · rw [lkD_put, if_pos rfl]
        exact ⟨_, rfl, by omega⟩
  · rename_i ha
    refine ⟨h.lim, ?_⟩
    rintro q' v (hD | ⟨_, a, b, _⟩)
    · exact h.has q' v hD
    · exact absurd ⟨a, b⟩ ha
theorem due1s_I {c : Clk} {st : List Int} {t : Int} {q : Ex2} {G : List Ex2} (hG : q ∈ G) : ∀ {l : List Int} {acc : KD} {D : Ex2 → Int → Prop}, (∀ o ∈ l, 0 ≤ o ∧ o < c.eds.length) → DueI c st t G D acc →
    DueI c st t G (fun q' v => D q' v ∨ (q' = q ∧ ∃ o ∈ l, asksO c st q o = true ∧ phases c q.1 o ≠ [] ∧ v = nextT c q.1 o t)) (l.foldl (due1 c st t q) acc)
  | [], acc, D, _, h => ⟨h.lim, by rintro q' v (hD | ⟨_, o, ho, _⟩); exact h.has q' v hD; cases ho⟩
  | o :: l, acc, D, hr, h => by
    rw [List.foldl_cons]
    have h1 := due1_I (q := q) (o := o) hG (hr o List.mem_cons_self).1 (hr o List.mem_cons_self).2 h
    have h2 := due1s_I (q := q) hG (l := l) (fun o' ho => hr o' (List.mem_cons_of_mem _ ho)) h1
    refine ⟨h2.lim, ?_⟩
    rintro q' v (hD | ⟨e, o', ho, r⟩)
    · exact h2.has q' v (.inl (.inl hD))
    · rcases List.mem_cons.mp ho with z | z
      · rw [z] at r
        exact h2.has q' v (.inl (.inr ⟨e, r⟩))
      · exact h2.has q' v (.inr ⟨e, o', z, r⟩)
theorem dueQs_I {c : Clk} {st : List Int} {t : Int} {G : List Ex2} : ∀ {l : List Ex2} {acc : KD} {D : Ex2 → Int → Prop}, (∀ q ∈ l, q ∈ G) → DueI c st t G D acc →
    DueI c st t G (fun q v => D q v ∨ (q ∈ l ∧ Lim c st t q v)) (l.foldl (dueQ c st t) acc)
  | [], acc, D, _, h => ⟨h.lim, by rintro q' v (hD | ⟨z, _⟩); exact h.has q' v hD; cases z⟩
  | q :: l, acc, D, hG, h => by
    rw [List.foldl_cons]
    have h1 := due1s_I (q := q) (hG q List.mem_cons_self) (l := rngI 0 c.eds.length) (fun o ho => mem_rngI.mp ho) h
    have h2 := dueQs_I (l := l) (acc := dueQ c st t acc q) (fun q' hq => hG q' (List.mem_cons_of_mem _ hq)) h1
    refine ⟨h2.lim, ?_⟩
    rintro q' v (hD | ⟨e, r⟩)
    · exact h2.has q' v (.inl (.inl hD))
    · rcases List.mem_cons.mp e with z | z
      · subst z
        obtain ⟨o, o0, o1, o2, o3, o4, o5⟩ := r
        exact h2.has q' v (.inl (.inr ⟨rfl, o, mem_rngI.mpr ⟨o0, o1⟩, by unfold asksO; simp [o2, o3], o4, o5⟩))
      · exact h2.has q' v (.inr ⟨z, r⟩)
theorem dueAll_I {c : Clk} {st : List Int} {t : Int} {G : List Ex2} : DueI c st t G (fun q v => q ∈ G ∧ Lim c st t q v) (dueAll c st t G) := by
  have h := dueQs_I (c := c) (st := st) (t := t) (l := G) (acc := []) (D := fun _ _ => False) (G := G) (fun _ h => h) ⟨fun e he => (nomatch he), fun _ _ z => z.elim⟩
  exact ⟨h.lim, fun q v hq => h.has q v (.inr hq)⟩
end MA
end
section
set_option Elab.async false
set_option linter.all false
set_option autoImplicit false
set_option maxRecDepth 100000
set_option maxHeartbeats 2000000
/-! The defs: standings, what is still to do, what is due. -/
namespace DL
open PySem PySem.Spec L2
open PyProof.Rows hiding St
open MA
section
variable {T : Addr → Prop} {P : Program} {w : World} {K : PySem.W.Frag} {mg : Str → Option Value} {base : Heap}
open LHead
def spStand : SpP := fun as S => ∃ (c : Clk) (st : List Int), as = [.dat (dC c), .dat (dI st)] ∧ c.Fit ∧ StOk c st ∧ S .none
theorem fn_stand (W : Wd T K mg base) : Fn T P w K mg base 2 "need_standing" spStand [] := by
  have hN : (["clock", "value"] : List Str).Nodup := by decide +kernel
  obtain ⟨fd, hm, F⟩ := (W.dv 25 _ rfl).ex
  obtain ⟨hT, hB⟩ := W.tb 5 _ rfl
  refine Fn.makeC (d := d_need_standing) (N := ["clock", "value"]) (ps := ["clock", "value"]) F hm ⟨rfl, rfl, rfl, by decide +kernel, rfl, by decide +kernel, by decide +kernel⟩ ?_ (fun _ _ _ _ _ _ us hl => match us, hl with | [_, _], _ => rfl) ?_
  · rintro as S ⟨c, b, rfl, _⟩
    exact ⟨rfl, by simp [Ent.isOwn]⟩
  · rintro A outer s H E hr as S ⟨c, st, rfl, fit, ok, hS⟩
    refine ex_no _ (Wv.tv (wv_or (tv_notb (tv_b (ev_isi (d := dI st) (z := true) W.g.isi W.g.tuple boot_tuple (ev_nm 1) k_tt))) fun _ => wv_or1 (Cv.tvb (cv_ne (ev_lenT (ds := st.map .int) W.g.len (ev_nm 1).r) (ev_lenT (ds := c.eds.map .int) W.g.len (Ev.r (ev_ixT (ev_nm 0).r ev_int rfl)))) rfl))) (by rw [List.length_map, List.length_map, ok.len]; simp) ?_
    refine ex_no _ (tv_notb (tv_b (ev_genZ (ds := st.map .int) (fs := c.eds.map .int) (tr := fun _ => true) true false false hr rfl W.g.all W.g.zip hT hB rfl (genS_of rfl rfl (by decide +kernel) rfl rfl (by decide +kernel)) rfl (by decide) (ev_nm 1) (ev_ixT (ev_nm 0).r ev_int rfl) (plain_map fun _ => rfl) (plain_map fun _ => rfl) ?_ rfl))) (by rw [aa_true]; rfl) (ex_nil hS)
    intro i da db env m h va vb ha hb hs L cap hma hmb ra rb
    rw [List.getElem?_map] at ha hb
    obtain ⟨x, hx, rfl⟩ := Option.map_eq_some_iff.mp ha
    obtain ⟨e, he, rfl⟩ := Option.map_eq_some_iff.mp hb
    obtain ⟨q1, q2⟩ := ok.num i x e hx he
    have ee : (decide ((0 : Int) ≤ x) && decide (x ≤ e)) = true := by simp [q1, q2]
    rw [← ee]
    exact le_number W (depth_of hr) L (le_nm L hma ra (kd_of hs rfl)) le_int (le_nm L hmb rb (kd_of hs rfl)) (kd_of hs rfl)
def spTodo : SpP := fun as S => ∃ (c : Clk) (st : List Int), as = [.dat (dC c), .dat (dI st)] ∧ c.Fit ∧ StOk c st ∧ S (.list ((goingOf c st).map d2))
theorem fn_todo (W : Wd T K mg base) : Fn T P w K mg base 2 "still_to_do" spTodo [] := by
  have hN : (["clock", "standing", "exchange"] : List Str).Nodup := by decide +kernel
  obtain ⟨fd, hm, F⟩ := (W.dv 26 _ rfl).ex
  refine Fn.make (N := ["clock", "standing", "exchange"]) (ps := ["clock", "standing"]) F hm ⟨rfl, rfl, rfl, by decide +kernel, rfl, by decide +kernel, by decide +kernel⟩ ?_ (fun _ _ _ _ _ _ us hl => match us, hl with | [_, _], _ => rfl) ?_
  · rintro as S ⟨c, b, rfl, _⟩
    exact ⟨rfl, by simp [Ent.isOwn]⟩
  · rintro cdv A outer s H E hr as S ⟨c, st, rfl, fit, ok, hS⟩
    have h48 := everyEx_len' fit
    refine ex_ret (Ev.imp (ev_lc (own := [("exchange", 2)]) (enc := d2) (L := everyEx c.eds) (c := fun q => decide (gI st q.1 < q.2)) (f := d2) rfl hN (blkOk_by (by kernel_rfl)) (wk_lst (ev_callD (fn_every W) (hr.mono (by decide)) (ar_cons (ev_nm 0) ar_nil) ⟨c, rfl, fit.ok.eds.few, fit.ok.eds.num, rfl⟩)) (sz (by omega)) fun q hq => ⟨[.dat (dC c), .dat (dI st), .dat (d2 q)], fun s H c' cl fp => ⟨bd_nm 2 hN, tvs_one (Cv.tvb (cv_gt (ev_ixT (ev_nm 2).r ev_int rfl) (ev_ixT (ds := st.map .int) (ev_nm 1).r (ev_ixT (ev_nm 2).r ev_int rfl) (atI_g (mem_everyEx.mp hq).1 (by rw [ok.len]; exact (mem_everyEx.mp hq).2.1)))) rfl), fun _ => ev_nm 2⟩⟩) fun d e => ?_)
    rw [← e]
    exact hS
def oD (b : Bool) (v : Int) : D := if b = true then .int v else .none
def spNextT : SpP := fun as S => ∃ (c : Clk) (a b t : Int), as = [.dat (dC c), .dat (.int a), .dat (.int b), .dat (.int t)] ∧ c.Fit ∧ (phases c a b ≠ [] → S (.int (nextT c a b t))) ∧ (phases c a b = [] → S .none)
theorem fn_nextT (W : Wd T K mg base) : Fn T P w K mg base 2 "next_touch" spNextT [] := by
  have hN : (["clock", "one", "other", "tick", "phases", "found"] : List Str).Nodup := by decide +kernel
  obtain ⟨fd, hm, F⟩ := (W.dv 27 _ rfl).ex
  refine Fn.make (N := ["clock", "one", "other", "tick", "phases", "found"]) (ps := ["clock", "one", "other", "tick"]) F hm ⟨rfl, rfl, rfl, by decide +kernel, rfl, by decide +kernel, by decide +kernel⟩ ?_ (fun _ _ _ _ _ _ us hl => match us, hl with | [_, _, _, _], _ => rfl) ?_
  · rintro as S ⟨c, a, b, t, rfl, _⟩
    exact ⟨rfl, by simp [Ent.isOwn]⟩
  · rintro cdv A outer s H E hr as S ⟨c, a, b, t, rfl, fit, hS1, hS2⟩
    have hp : 0 < c.p := by have := fit.ok.p1; omega
    refine ex_setD 4 hN (ev_callD (fn_phases W) (hr.mono (by decide)) (ar_cons (ev_nm 0) (ar_cons (ev_nm 1) (ar_cons (ev_nm 2) ar_nil))) ⟨c, a, b, rfl, fit.t, rfl⟩) ?_
    refine ex_if (A := Eq (!!((phases c a b).map PyData.int).isEmpty)) (tv_notb (tv_lst (ds := (phases c a b).map .int) (Ev.r (ev_nm 4)))) (fun q => ?_) (fun q => ?_)
    · rw [Bool.not_not, List.isEmpty_iff, List.map_eq_nil_iff] at q
      exact ex_ret (Ev.imp ev_non fun d e => by rw [← e]; exact hS2 q)
    rw [Bool.not_not] at q
    have hv : phases c a b ≠ [] := fun z => by rw [z] at q; cases q
    refine ex_nil (ex_setD 5 hN (ev_nm 3) ?_)
    refine ex_while (n := c.p.toNat) (fun m e => ∃ f : Int, e = [.dat (dC c), .dat (.int a), .dat (.int b), .dat (.int t), .dat (.list ((phases c a b).map .int)), .dat (.int f)] ∧ nxt (atTouch c a b) m f = nextT c a b t ∧ ∃ s, f ≤ s ∧ s < f + m ∧ atTouch c a b s = true) .never ⟨t, rfl, rfl, fit.ok.touchHit hv t⟩ ?_
    rintro m es' ⟨f, rfl, hf, hs⟩
    refine ⟨Eq (!atTouch c a b f), Cv.tvb (cv_niI true (ev_mod hp (ev_nm 5) (ev_ixT (ev_nm 0).r ev_int rfl)) (Ev.r (ev_nm 4))) rfl, fun q => ?_, fun q => ?_⟩
    · have q' : atTouch c a b f = false := by simpa using q
      obtain ⟨s', s1, s2, s3⟩ := hs
      cases m with
      | zero => simp at s2; omega
      | succ m =>
        have ne : s' ≠ f := fun z => by rw [z, q'] at s3; cases s3
        refine ex_augI 5 ip_add hN rfl ev_int (ex_nil ⟨m, Nat.lt_succ_self m, f + 1, rfl, ?_, s', by omega, by omega, s3⟩)
        rw [← hf]
        show _ = nxt _ (m + 1) f
        rw [nxt, if_neg (by rw [q']; decide)]
    · have q' : atTouch c a b f = true := by simpa using q
      refine ex_ret (Ev.imp (ev_nm 5) fun d e => ?_)
      rw [← e, show f = nextT c a b t from by rw [← hf, nxt_hit q']]
      exact hS1 hv
end
end DL
end
section
set_option Elab.async false
set_option linter.all false
set_option autoImplicit false
set_option maxRecDepth 100000
set_option maxHeartbeats 2000000
/-! The defs: what is due. -/
namespace DL
open PySem PySem.Spec L2
open PyProof.Rows hiding St
open MA
section
variable {T : Addr → Prop} {P : Program} {w : World} {K : PySem.W.Frag} {mg : Str → Option Value} {base : Heap}
open LHead
def spDue : SpP := fun as S => ∃ (c : Clk) (t : Int) (st : List Int), as = [.dat (dC c), .dat (.int t), .dat (dI st)] ∧ c.Fit ∧ StOk c st ∧ S (dicD (dueAll c st t (goingOf c st)))
theorem fn_due (W : Wd T K mg base) : Fn T P w K mg base 3 "due_ticks" spDue [] := by
  have hN : (["clock", "tick", "standing", "found", "wheel", "edition", "other", "touch"] : List Str).Nodup := by decide +kernel
  obtain ⟨fd, hm, F⟩ := (W.dv 28 _ rfl).ex
  refine Fn.make (N := ["clock", "tick", "standing", "found", "wheel", "edition", "other", "touch"]) (ps := ["clock", "tick", "standing"]) F hm ⟨rfl, rfl, rfl, by decide +kernel, rfl, by decide +kernel, by decide +kernel⟩ ?_ (fun _ _ _ _ _ _ us hl => match us, hl with | [_, _, _], _ => rfl) ?_
  · rintro as S ⟨c, t, st, rfl, _⟩
    exact ⟨rfl, by simp [Ent.isOwn]⟩
  · rintro cdv A outer s H E hr as S ⟨c, t, st, rfl, fit, ok, hS⟩
    have h12 := fit.ok.eds.few
    have h48 : (goingOf c st).length ≤ 48 := Nat.le_trans going_len (everyEx_len' fit)
    have lm : (c.eds.map PyData.int).length = c.eds.length := List.length_map _
    refine ex_setN 3 (f := .dic []) hN evn_dic0 ?_
    refine ex_forD [4, 5] (enc := d2) (L := goingOf c st) (fun i e => ∃ (z4 z5 z6 z7 : Ent), e = [.dat (dC c), .dat (.int t), .dat (dI st), .dic (((goingOf c st).take i).foldl (dueQ c st t) []), z4, z5, z6, z7]) .never rfl (wk_lst (ev_callD (fn_todo W) (hr.mono (by decide)) (ar_cons (ev_nm 0) (ar_cons (ev_nm 2) ar_nil)) ⟨c, st, rfl, fit, ok, rfl⟩)) ⟨_, _, _, _, rfl⟩ ?_ ?_
    · rintro i q es' hi ⟨z4, z5, z6, z7, rfl⟩
      have lacc : (((goingOf c st).take i).foldl (dueQ c st t) []).length ≤ 576 := by
        have := dueQs_len h12 (st := st) (t := t) (l := (goingOf c st).take i) (acc := [])
        rw [List.length_take, List.length_nil] at this
        omega
      rw [take_snoc hi, List.foldl_append]
      show ∃ es2, _ ∧ Ex _ _ es2 _ { nx := fun e => ∃ (z4 z5 z6 z7 : Ent), e = [.dat (dC c), .dat (.int t), .dat (dI st), .dic (dueQ c st t (((goingOf c st).take i).foldl (dueQ c st t) []) q), z4, z5, z6, z7], rt := _, bk := _, ct := _ }
      generalize ((goingOf c st).take i).foldl (dueQ c st t) [] = acc at lacc ⊢
      refine ⟨_, bd_tup rfl (Bds.cons rfl (bd_nm 4 hN) (Bds.cons rfl (bd_nm 5 hN) .nil)), ?_⟩
      refine ex_forD [6] (enc := .int) (L := rngI 0 c.eds.length) (fun i e => ∃ (z6 z7 : Ent), e = [.dat (dC c), .dat (.int t), .dat (dI st), .dic (((rngI 0 c.eds.length).take i).foldl (due1 c st t q) acc), .dat (.int q.1), .dat (.int q.2), z6, z7]) .never rfl ?_ ⟨_, _, rfl⟩ ?_ ?_
      · rw [← rngL0, ← lm]
        exact wk_rng1 W.g.range (ev_lenT (ds := c.eds.map .int) W.g.len (Ev.r (ev_ixT (ev_nm 0).r ev_int rfl))) (by omega) (by omega)
      · rintro j o es' hj ⟨z6, z7, rfl⟩
        obtain ⟨o0, o1⟩ := mem_rngI.mp (List.mem_of_getElem? hj)
        have lacc2 : (((rngI 0 c.eds.length).take j).foldl (due1 c st t q) acc).length ≤ 588 := by
          have := due1s_len (c := c) (st := st) (t := t) (q := q) (l := (rngI 0 c.eds.length).take j) (acc := acc)
          rw [List.length_take, rngI_len] at this
          omega
        rw [take_snoc hj, List.foldl_append]
        show ∃ es2, _ ∧ Ex _ _ es2 _ { nx := fun e => ∃ (z6 z7 : Ent), e = [.dat (dC c), .dat (.int t), .dat (dI st), .dic (due1 c st t q (((rngI 0 c.eds.length).take j).foldl (due1 c st t q) acc) o), .dat (.int q.1), .dat (.int q.2), z6, z7], rt := _, bk := _, ct := _ }
        generalize ((rngI 0 c.eds.length).take j).foldl (due1 c st t q) acc = acc' at lacc2 ⊢
        refine ⟨_, bd_nm 6 hN, ?_⟩
        refine ex_if (A := Eq (asksO c st q o)) (Wv.tv (wv_and (Cv.tvb (cv_ne (ev_nm 6) (ev_nm 4)) rfl) fun _ => wv_and1 (Cv.tvb (cv_ge (ev_callD (fn_least W) (hr.mono (by decide)) (ar_cons (ev_nm 0) (ar_cons (ev_nm 6) (ar_cons (ev_ixT (ds := st.map .int) (ev_nm 2).r (ev_nm 6) (atI_g o0 (by rw [ok.len]; exact o1))) (ar_cons (ev_nm 4) ar_nil)))) ⟨c, o, gI st o, q.1, rfl, fit.b, rfl⟩) (ev_nm 5)) rfl))) (fun ha => ?_) (fun ha => ?_)
        · refine ex_set 7 hN (S := fun d => (phases c q.1 o ≠ [] ∧ d = .int (nextT c q.1 o t)) ∨ (phases c q.1 o = [] ∧ d = .none)) (ev_callD (fn_nextT W) (hr.mono (by decide)) (ar_cons (ev_nm 0) (ar_cons (ev_nm 4) (ar_cons (ev_nm 6) (ar_cons (ev_nm 1) ar_nil)))) ⟨c, q.1, o, t, rfl, fit, fun h => .inl ⟨h, rfl⟩, fun h => .inr ⟨h, rfl⟩⟩) ?_
          rintro d (⟨hp, rfl⟩ | ⟨hp, rfl⟩)
          · have e1 : due1 c st t q acc' o = putD acc' [q.1, q.2] (min (nextT c q.1 o t) ((lkD acc' [q.1, q.2]).getD (nextT c q.1 o t))) := if_pos ⟨ha, hp⟩
            refine ex_if (A := Eq (!isNon (.int (nextT c q.1 o t)))) (Cv.tvb (cv_notN (ev_nm 7)) rfl) (fun _ => ?_) (fun z => nomatch z)
            refine ex_put 3 (k := [q.1, q.2]) hr rfl rfl (.inl rfl) (ev_min2 rfl W.g.min (ev_nm 7) (ev_dgetD (k := [q.1, q.2]) hr (evr_dic 3) (ev_tup (evs_cons (ev_nm 4) (evs_cons (ev_nm 5) evs_nil))) (ev_nm 7))) (ev_tup (evs_cons (ev_nm 4) (evs_cons (ev_nm 5) evs_nil))) (ex_nil (ex_nil (ex_nil ⟨_, _, by rw [e1]; rfl⟩))) (Nat.lt_of_le_of_lt lacc2 (by decide))
          · have e1 : due1 c st t q acc' o = acc' := if_neg fun z => z.2 hp
            refine ex_if (A := Eq (!isNon .none)) (Cv.tvb (cv_notN (ev_nm 7)) rfl) (fun z => nomatch z) (fun _ => ?_)
            exact ex_nil (ex_nil (ex_nil ⟨_, _, by rw [e1]; rfl⟩))
        · have e1 : due1 c st t q acc' o = acc' := if_neg fun z => by
            rw [z.1] at ha
            cases ha
          exact ex_nil (ex_nil ⟨_, _, by rw [e1]; rfl⟩)
      · rintro es' ⟨z6, z7, rfl⟩
        rw [List.take_length]
        exact ex_nil ⟨_, _, _, _, rfl⟩
    · rintro es' ⟨z4, z5, z6, z7, rfl⟩
      rw [List.take_length]
      exact ex_retR (EvR.imp (evr_dic 3) fun d e => by rw [← e]; exact hS)
end
end DL
end
section
set_option Elab.async false
set_option linter.all false
set_option autoImplicit false
set_option maxRecDepth 100000
set_option maxHeartbeats 2000000
/-! The defs: the rest. -/
namespace MA
open DL (Goes Leans)
def restB (c : Clk) (st : List Int) (t : Int) : Int := t + 2 * c.p * ((goingOf c st).length + 1)
def RestPost (c : Clk) (st : List Int) (t : Int) : Option (Ex2 → Int) → Prop
  | some x => (UpI c (goingOf c st) (leansIn c (goingOf c st)) t (restB c st t) x ∧ Cl c (goingOf c st) (leansIn c (goingOf c st)) t x) ∧ ∀ q ∈ goingOf c st, ∀ v, Lim c st t q v → x q ≤ v
  | none => (∃ a ∈ goingOf c st, ∀ y, Cl c (goingOf c st) (leansIn c (goingOf c st)) t y → restB c st t < y a) ∨
      ∃ x, (UpI c (goingOf c st) (leansIn c (goingOf c st)) t (restB c st t) x ∧ Cl c (goingOf c st) (leansIn c (goingOf c st)) t x) ∧ ∃ q ∈ goingOf c st, ∃ v, Lim c st t q v ∧ v < x q
end MA
namespace DL
open PySem PySem.Spec L2
open PyProof.Rows hiding St
open MA
section
variable {T : Addr → Prop} {P : Program} {w : World} {K : PySem.W.Frag} {mg : Str → Option Value} {base : Heap} {d : He.DefD} {params : Arguments} {x qual : Str} {scope : Scope} {body : List Stmt} {fd : FuncData} {N ps : List Str} {k : Nat} {sp : SpP} {das : List Ent} {dvs : List V}
/-- with defaults, the code object told -/
theorem Fn.makeCD (n j : Nat) (F : FunD K x qual params body scope dvs [] (He.fAd K d.at_) fd) (hm : mg x = some (.ref (He.fAd K d.at_))) (S : FnScope N ps scope) (hl : ∀ as S, sp as S → as.length = ps.length ∧ ∀ e ∈ as, ¬ e.isOwn) (hd : dvs ≠ []) (hn : n + (dvs.length - j) = ps.length) (hda : ∀ p H, Good T p H → EntsOk K p H (dvs.drop j) das)
    (hb : ∀ (Ta : Addr) (kV doc pm : Value) (an : Option Addr) (cdv ct : Value) (us its : List Value), us.length = n → its.length = dvs.length →
      ∃ k, bindArgs (PySem.W.fnOf x qual params body scope (.ref Ta) kV doc pm an cdv ct) ⟨us, []⟩ = seqItems? (.ref Ta) >>= k ∧ k (some its.toArray) = pure (ps.zip (us ++ its.drop j)))
    (hbody : ∀ (A : Around) (outer : List Env) (s : Shared) (H : Hp) (E : XK), Room k (A.deeper (envOfC qual scope s.heap.objs.size (He.fAd K d.at_) (.ref (He.cT K d.at_).1))) → ∀ as S, sp as S → Ex T (cX P w K mg base N qual scope (He.fAd K d.at_) (.ref (He.cT K d.at_).1) A outer s H E) (entSt N as) body { nx := fun _ => S .none, rt := S }) :
    Fn T P w K mg base (k + 1) x sp das := by
  obtain ⟨ds, hv, hbi⟩ := F.binds1 (ps := ps) n j hd hn hb
  refine ⟨He.fAd K d.at_, fd, ps, ds, dvs.drop j, hm, F.kp, hbi, hv, hda, ?_⟩
  obtain ⟨oc, od, dV, kV, doc, pm, an, cdv, ct, osl, rfl, lk, hcd, _, _⟩ := F.ex
  obtain ⟨c, rfl⟩ := He.codeIn_ref hcd
  have ec : (He.cT K d.at_).1 = c := He.codeOf_eq lk rfl
  rw [ec] at hbody
  refine fn_of lk hcd S (fun vs H Q E h => ?_) (fun A outer s H vs Q E hr h => ?_)
  · obtain ⟨p, as, S', g, r, hs, _⟩ := h
    rw [r.length]
    exact (hl as S' hs).1
  · obtain ⟨p, as, S', g, r, hs, kk⟩ := h
    refine ⟨_, PSs.nox (X := cxOf CX0 P w K mg base N qual scope (He.fAd K d.at_) (.ref c) A outer s H E) pss_w, ?_⟩
    refine hbody A outer s H E hr as S' hs p.in_ H (L2.start N vs) _ g.in_ (env_start r (hl as S' hs).2) ⟨?_, ?_, fun _ _ _ _ _ z => z.elim, fun _ _ _ _ _ z => z.elim⟩
    · intro es' p' H' σ' st hS _
      exact kk H' .non .none (fun b y e _ => st.gr b y e (fun z => z)) .non hS
    · intro d v p' H' st hS rd
      exact kk H' v d (fun b y e _ => st.gr b y e (fun z => z)) (rd.mono (.weak fun a z => st.out a (in_out z))) hS
end
section
variable {T : Addr → Prop} {P : Program} {w : World} {K : PySem.W.Frag} {mg : Str → Option Value} {base : Heap}
open LHead
theorem units9_of {k : Nat} {A : Around} (hr : Room k A) : A.units + 8 + 1 < cLine := by
  have := hr.un
  omega
def spRestT : SpP := fun as S => ∃ (c : Clk) (t : Int) (st : List Int), as = [.dat (dC c), .dat (.int t), .dat (dI st), .dat (.tuple [])] ∧ c.Fit ∧ StOk c st ∧ ∀ r, RestPost c st t r → S (tkD (goingOf c st) r)
theorem fn_restT (W : Wd T K mg base) : Fn T P w K mg base 4 "rest_ticks" spRestT [] := by
  have hN : (["clock", "tick", "standing", "held", "going", "exchange", "one", "other", "leans", "limits", "most", "changed", "least", "ticks"] : List Str).Nodup := by decide +kernel
  obtain ⟨fd, hm, F⟩ := (W.dv 29 _ rfl).ex
  obtain ⟨hT, hB⟩ := W.tb 6 _ rfl
  refine Fn.makeCD (d := d_rest_ticks) (N := ["clock", "tick", "standing", "held", "going", "exchange", "one", "other", "leans", "limits", "most", "changed", "least", "ticks"]) (ps := ["clock", "tick", "standing", "held"]) 4 1 F hm ⟨rfl, rfl, rfl, by decide +kernel, rfl, by decide +kernel, by decide +kernel⟩ ?_ (by show [V.ref _] ≠ []; exact List.cons_ne_nil _ _) rfl ?_ ?_ ?_
  · rintro as S ⟨c, t, st, rfl, _⟩
    exact ⟨rfl, by simp [Ent.isOwn]⟩
  · intro p H g
    exact .nil
  · intro Ta kV doc pm an cdv ct us its h1 h2
    match us, its, h1, h2 with
    | [_, _, _, _], [_], _, _ => exact ⟨_, rfl, rfl⟩
  · rintro A outer s H E hr as S ⟨c, t, st, rfl, fit, sok, hS⟩
    have h48 : (goingOf c st).length ≤ 48 := Nat.le_trans going_len (everyEx_len' fit)
    have hp := fit.ok.p1
    have hG : (goingOf c st).Nodup := going_nodup
    have hin : ∀ q ∈ goingOf c st, q ∈ everyEx c.eds := fun q h => (mem_going.mp h).1
    have ok : OkL c (goingOf c st) (leansIn c (goingOf c st)) := leansIn_ok hin
    have hgap : ∀ q ∈ goingOf c st, Goes c q.1 := fun q h => goes_of (hin q h)
    have hdue := dueAll_I (c := c) (st := st) (t := t) (G := goingOf c st)
    have ldue : (dueAll c st t (goingOf c st)).length ≤ 576 := by
      have := dueQs_len fit.ok.eds.few (st := st) (t := t) (l := goingOf c st) (acc := [])
      rw [List.length_nil] at this
      unfold dueAll
      omega
    unfold RestPost restB at hS
    refine ex_setD 4 hN (ev_callD (fn_todo W) (hr.mono (by decide)) (ar_cons (ev_nm 0) (ar_cons (ev_nm 2) ar_nil)) ⟨c, st, rfl, fit, sok, rfl⟩) ?_
    refine ex_setN 13 (f := .dic []) hN evn_dic0 ?_
    refine ex_forD [5] (enc := d2) (L := goingOf c st) (fun i e => ∃ (z5 : Ent), e = [.dat (dC c), .dat (.int t), .dat (dI st), .dat (.tuple []), .dat (.list ((goingOf c st).map d2)), z5, .unk, .unk, .unk, .unk, .unk, .unk, .unk, .dic (mkT ((goingOf c st).take i) fun q => gapFrom c q.1 t)]) .never rfl (wk_lst (ev_nm 4)) ⟨_, rfl⟩ ?_ ?_
    · rintro i q es' hi ⟨z5, rfl⟩
      have hq := List.mem_of_getElem? hi
      refine ⟨_, bd_nm 5 hN, ?_⟩
      refine ex_put 13 (k := [q.1, q.2]) (v := gapFrom c q.1 t) hr rfl rfl (.inr (.inl rfl)) (Ev.imp (ev_callD (fn_gapFrom W) (hr.mono (by decide)) (ar_cons (ev_nm 0) (ar_cons (ev_ixT (ev_nm 5).r ev_int rfl) (ar_cons (ev_add (ev_nm 1) (ev_intB W.g.int (Cv.evb (cv_inI (ns := []) false (ev_ixT (ev_nm 5).r ev_int rfl) (Ev.r (ev_nm 3))) rfl))) ar_nil))) ⟨c, q.1, _, rfl, fit, hgap q hq, rfl⟩) fun d e => ?_) (ev_nm 5) (ex_nil ⟨.dat (d2 q), ?_⟩) (by rw [mkT_len, List.length_take]; exact Nat.lt_of_le_of_lt (by omega : _ ≤ 48) (by decide))
      · rw [← e]
        show PyData.int (gapFrom c q.1 t) = .int (gapFrom c q.1 (t + 0))
        rw [Int.add_zero]
      · have hnew : q ∉ (goingOf c st).take i := fun hm => by
          obtain ⟨j, hj, ej⟩ := List.getElem_of_mem hm
          rw [List.length_take] at hj
          rw [List.getElem_take] at ej
          obtain ⟨hi', ei⟩ := List.getElem?_eq_some_iff.mp hi
          have := (List.getElem_inj (i := j) (j := i) (h₀ := by omega) (h₁ := hi') hG).mp (ej.trans ei.symm)
          omega
        have e := put_new (x := fun q : Ex2 => gapFrom c q.1 t) hnew
        rw [← take_snoc hi] at e
        rw [← e]
        rfl
    · rintro es' ⟨z5, rfl⟩
      rw [List.take_length]
      refine ex_setLcD 8 (own := [("one", 6), ("other", 7)]) (enc := dLn) (L := everyLean c) (cf := fun l => decide (l.1 ∈ goingOf c st) && decide (l.2 ∈ goingOf c st)) (f := dLn) hN rfl (blkOk_by (by kernel_rfl)) (wk_lst (ev_callD (fn_leans W) (hr.mono (by decide)) (ar_cons (ev_nm 0) ar_nil) ⟨c, rfl, fit, rfl⟩)) (sz (Nat.le_trans (everyLean_len fit.ok.eds.few fit.ok.eds.num) (by decide))) (fun l hl => ⟨[.dat (dC c), .dat (.int t), .dat (dI st), .dat (.tuple []), .dat (.list ((goingOf c st).map d2)), z5, .dat (d2 l.1), .dat (d2 l.2), .unk, .unk, .unk, .unk, .unk, .dic (mkT (goingOf c st) fun q => gapFrom c q.1 t)], fun s H c' cl fp => ⟨bd_tup rfl (Bds.cons rfl (bd_nm 6 hN) (Bds.cons rfl (bd_nm 7 hN) .nil)), tvs_one ?_, fun _ => ev_tup (evs_cons (ev_nm 6) (evs_cons (ev_nm 7) evs_nil))⟩⟩) ?_
      · refine Tv.imp (Wv.tv (wv_and (Cv.tvb (cv_din (k := [l.1.1, l.1.2]) hr (ev_nm 6) (evr_dic 13)) rfl) fun _ => wv_and1 (Cv.tvb (cv_din (k := [l.2.1, l.2.2]) hr (ev_nm 7) (evr_dic 13)) rfl))) fun z e => ?_
        rw [← e, lk_mk, lk_mk]
        split <;> split <;> simp [*]
      have hle : (everyLean c).filter (fun l => decide (l.1 ∈ goingOf c st) && decide (l.2 ∈ goingOf c st)) = leansIn c (goingOf c st) := rfl
      rw [hle]
      refine ex_setD 9 hN (ev_callD (fn_due W) (hr.mono (by decide)) (ar_cons (ev_nm 0) (ar_cons (ev_nm 1) (ar_cons (ev_nm 2) ar_nil))) ⟨c, t, st, rfl, fit, sok, rfl⟩) ?_
      refine ex_setD 10 hN (ev_add (ev_nm 1) (ev_mul (cm2 (i := 2 * c.p) (by omega) (by have := fit.ok.p2; omega)) (ev_mul (.inl (by decide)) ev_int (ev_ixT (ev_nm 0).r ev_int rfl)) (ev_add (ev_lenL (ds := (goingOf c st).map d2) W.g.len (Ev.r (ev_nm 4))) ev_int))) ?_
      rw [show (((goingOf c st).map d2).length : Int) = ((goingOf c st).length : Int) by rw [List.length_map]]
      refine ex_setD 11 hN ev_bl ?_
      have hmm : c.p ≤ 2 * c.p * (((goingOf c st).length : Int) + 1) := by
        have := Int.mul_le_mul_of_nonneg_left (by omega : (1 : Int) ≤ ((goingOf c st).length : Int) + 1) (by omega : 0 ≤ 2 * c.p)
        rw [Int.mul_one] at this
        omega
      generalize hM : t + 2 * c.p * (((goingOf c st).length : Int) + 1) = M at hS ⊢
      have lnl := leansIn_len (G := goingOf c st) fit
      generalize dueAll c st t (goingOf c st) = kd at hdue ldue ⊢
      generalize leansIn c (goingOf c st) = L at hS ok lnl ⊢
      generalize goingOf c st = G at hS ok h48 hG hgap lnl hdue ⊢
      refine ex_while (n := 2 * mUp M (fun q => gapFrom c q.1 t) G + 1) (fun m e => ∃ (x : Ex2 → Int) (ch : Bool) (z5 z6 z7 z12 : Ent), e = [.dat (dC c), .dat (.int t), .dat (dI st), .dat (.tuple []), .dat (.list (G.map d2)), z5, z6, z7, .dat (.list (L.map dLn)), .dat (dicD kd), .dat (.int M), .dat (.bool ch), z12, .dic (mkT G x)] ∧ UpI c G L t M x ∧ (ch = false → Cl c G L t x) ∧ m = 2 * mUp M x G + ch.toNat) .never ⟨_, true, _, _, _, _, rfl, upI_start fit ok (by omega), (fun q => nomatch q), rfl⟩ ?_
      rintro m es' ⟨x, ch, z5, z6, z7, z12, rfl, hu, hc, hmm⟩
      refine ⟨Eq ch, tv_b (ev_nm 11), fun q => ?_, fun q => ?_⟩
      · subst q
        refine ex_setD 11 hN ev_bl ?_
        refine ex_forD [6, 7] (enc := dLn) (L := L) (fun i e => ∃ (x' : Ex2 → Int) (ch : Bool) (z5 z6 z7 z12 : Ent), e = [.dat (dC c), .dat (.int t), .dat (dI st), .dat (.tuple []), .dat (.list (G.map d2)), z5, z6, z7, .dat (.list (L.map dLn)), .dat (dicD kd), .dat (.int M), .dat (.bool ch), z12, .dic (mkT G x')] ∧ ForI c G L t M (mUp M x G) i x' ch) .never rfl (wk_lst (ev_nm 8)) ⟨x, false, z5, z6, z7, z12, rfl, hu, Nat.le_refl _, (fun q => nomatch q), fun _ j l hj _ => absurd hj (Nat.not_lt_zero _)⟩ ?_ ?_
        · rintro i l es' hi ⟨x', ch, z5, z6, z7, z12, rfl, hf⟩
          obtain ⟨la, lb, hl⟩ := ok.l l (List.mem_of_getElem? hi)
          refine ⟨_, bd_tup rfl (Bds.cons rfl (bd_nm 6 hN) (Bds.cons rfl (bd_nm 7 hN) .nil)), ?_⟩
          refine ex_setD 12 hN (ev_callD (fn_push W) (hr.mono (by decide)) (ar_cons (ev_nm 0) (ar_cons (ev_nm 6) (ar_cons (ev_nm 7) (ar_cons (ev_dget (k := [l.2.1, l.2.2]) hr (evr_dic 13) (ev_nm 7) (lk_some lb)) ar_nil)))) ⟨c, l.1, l.2, x' l.2, rfl, fit, hl, rfl⟩) ?_
          refine ex_if (A := Eq (decide (x' l.1 < pushF c l.1 l.2 (x' l.2)))) (Cv.tvb (cv_gt (ev_nm 12) (ev_dget (k := [l.1.1, l.1.2]) hr (evr_dic 13) (ev_nm 6) (lk_some la))) rfl) (fun q => ?_) (fun q => ?_)
          · have q' := of_decide_eq_true q
            refine ex_put 13 (k := [l.1.1, l.1.2]) hr rfl rfl (.inr (.inl rfl)) (ev_nm 12) (ev_nm 6) ?_ (by rw [mkT_len]; exact Nat.lt_of_le_of_lt h48 (by decide))
            rw [put_mk la]
            refine ex_setD 11 hN ev_bl ?_
            refine ex_if (A := Eq (decide (M < pushF c l.1 l.2 (x' l.2)))) (Cv.tvb (cv_gt (ev_nm 12) (ev_nm 10)) rfl) (fun q2 => ?_) (fun q2 => ?_)
            · have q2' := of_decide_eq_true q2
              refine ex_ret (Ev.imp ev_non fun d e => ?_)
              rw [← e]
              refine hS none (.inl ⟨l.1, la, fun y hy => ?_⟩)
              have := upI_low fit ok hf.up (List.mem_of_getElem? hi) y hy
              omega
            · have q2' := of_decide_eq_false q2
              exact ex_nil (ex_nil (ex_nil ⟨_, true, _, _, _, _, rfl, hf.step fit ok hi q' (by omega)⟩))
          · have q' := of_decide_eq_false q
            exact ex_nil (ex_nil ⟨x', ch, _, _, _, _, rfl, hf.keep hi (by omega)⟩)
        · rintro es' ⟨x', ch, z5, z6, z7, z12, rfl, hf⟩
          obtain ⟨f1, f2, f3⟩ := hf.fin
          exact ex_nil ⟨_, by rw [hmm]; exact f3, x', ch, z5, z6, z7, z12, rfl, f1, f2, rfl⟩
      · subst q
        have hu2 : UpI c G L t M x ∧ Cl c G L t x := ⟨hu, hc rfl⟩
        have hx : ∀ i, i < kd.length → ∃ q v, kd.getD i ([], 0) = ([q.1, q.2], v) ∧ q ∈ G ∧ Lim c st t q v := fun i hi => by
          obtain ⟨q, v, e1, e2, e3⟩ := hdue.lim kd[i] (List.getElem_mem hi)
          exact ⟨q, v, by rw [List.getD_eq_getElem?_getD, List.getElem?_eq_getElem hi]; exact e1, e2, e3⟩
        refine ex_if (A := Eq (aa false kd.length fun i => decide ((kd.getD i ([], 0)).2 < (lkD (mkT G x) (kd.getD i ([], 0)).1).getD 0))) (tv_b (ev_genI false hr rfl W.g.any hT hB rfl (genS_of rfl rfl (by decide +kernel) rfl rfl (by decide +kernel)) rfl (by decide) (Ev.r (ev_nm 9)) ?_ rfl)) (fun q => ?_) (fun q => ?_)
        · intro i q env m h va vb hq hs L cap hma hmb ra rb
          have hi : i < kd.length := (List.getElem?_eq_some_iff.mp hq).1
          have e1 : kd.getD i ([], 0) = q := by rw [List.getD_eq_getElem?_getD, hq]; rfl
          obtain ⟨a, v, e2, e3, _⟩ := hx i hi
          rw [e1] at e2 ⊢
          obtain ⟨cc, dd, hc1, hc2, hc3⟩ := cap 13 "ticks" _ rfl rfl (by decide +kernel) rfl
          have hk : lkD (mkT G x) q.1 = some (x a) := by
            rw [e2]
            exact lk_some e3
          rw [hk]
          exact le_gt (le_dget (units9_of hr) L hc1 hc2 hc3 (le_nm L hma ra (kd_of hs rfl)) hk (kd_of hs rfl)) (le_nm L hmb rb (kd_of hs rfl))
        · obtain ⟨i, hi, ht⟩ := aa_any.mp q
          obtain ⟨a, v, e2, e3, e4⟩ := hx i hi
          have h3 := of_decide_eq_true ht
          rw [e2, lk_some e3] at h3
          refine ex_ret (Ev.imp ev_non fun d z => ?_)
          rw [← z]
          exact hS none (.inr ⟨x, hu2, a, e3, v, e4, h3⟩)
        · refine ex_nil (ex_retR (EvR.imp (evr_dic 13) fun d e => by
            rw [← e]
            refine hS (some x) ⟨hu2, fun a ha v hv => ?_⟩
            obtain ⟨v', e1, e2⟩ := hdue.has a v ⟨ha, hv⟩
            by_cases n : v' < x a
            · obtain ⟨i, hi, ei⟩ := List.getElem_of_mem (lkD_mem e1)
              have : aa false kd.length (fun i => decide ((kd.getD i ([], 0)).2 < (lkD (mkT G x) (kd.getD i ([], 0)).1).getD 0)) = true := aa_any.mpr ⟨i, hi, decide_eq_true (by
                have e5 : kd.getD i ([], 0) = ([a.1, a.2], v') := by rw [List.getD_eq_getElem?_getD, List.getElem?_eq_getElem hi]; exact ei
                rw [e5, lk_some ha]
                exact n)⟩
              rw [this] at q
              cases q
            · omega))
end
end DL
end
section
set_option Elab.async false
set_option linter.all false
set_option autoImplicit false
set_option maxRecDepth 100000
set_option maxHeartbeats 2000000
/-! The defs: the rest, told. -/
namespace MA
def restX (eds st : List Int) (x : Ex2 → Int) : List (List Int) := eds.zipIdx.map fun q => (rngI (gI st (q.2 : Int)) q.1).map fun a => x ((q.2 : Int), a + 1)
end MA
namespace DL
open PySem PySem.Spec L2
open PyProof.Rows hiding St
open MA
def rsD (c : Clk) (st : List Int) : Option (Ex2 → Int) → D
  | none => .none
  | some x => .tuple ((restX c.eds st x).map dI)
section
variable {T : Addr → Prop} {P : Program} {w : World} {K : PySem.W.Frag} {mg : Str → Option Value} {base : Heap}
open LHead
theorem rngL_map' (a b : Int) {X : Nat} (h : X = (b - a).toNat) : rngL a X = (rngI a b).map .int := by
  rw [h, rngL_map]
def spRestOf : SpP := fun as S => ∃ (c : Clk) (t : Int) (st : List Int), as = [.dat (dC c), .dat (.int t), .dat (dI st), .dat (.tuple [])] ∧ c.Fit ∧ StOk c st ∧ ∀ r, RestPost c st t r → S (rsD c st r)
theorem fn_restOf (W : Wd T K mg base) : Fn T P w K mg base 5 "rest_of" spRestOf [.dat (.tuple [])] := by
  have hN : (["clock", "tick", "standing", "held", "ticks", "found", "wheel", "last", "at"] : List Str).Nodup := by decide +kernel
  obtain ⟨fd, hm, F⟩ := (W.dv 30 _ rfl).ex
  refine Fn.makeD (N := ["clock", "tick", "standing", "held", "ticks", "found", "wheel", "last", "at"]) (ps := ["clock", "tick", "standing", "held"]) 3 0 F hm ⟨rfl, rfl, rfl, by decide +kernel, rfl, by decide +kernel, by decide +kernel⟩ ?_ (by show [V.ref _] ≠ []; exact List.cons_ne_nil _ _) rfl ?_ ?_ ?_
  · rintro as S ⟨c, t, st, rfl, _⟩
    exact ⟨rfl, by simp [Ent.isOwn]⟩
  · intro p H g
    exact .cons ⟨_, rfl, .tup (.inr ⟨rfl, W.z3⟩) .nil⟩ .nil
  · intro Ta kV doc pm an cdv ct us its h1 h2
    match us, its, h1, h2 with
    | [_, _, _], [_], _, _ => exact ⟨_, rfl, rfl⟩
  · rintro cdv A outer s H E hr as S ⟨c, t, st, rfl, fit, sok, hS⟩
    refine ex_set 4 hN (S := fun d => ∃ r, RestPost c st t r ∧ d = tkD (goingOf c st) r) (ev_callD (fn_restT W) (hr.mono (by decide)) (ar_cons (ev_nm 0) (ar_cons (ev_nm 1) (ar_cons (ev_nm 2) (ar_cons (ev_nm 3) ar_nil)))) ⟨c, t, st, rfl, fit, sok, fun r hp => ⟨r, hp, rfl⟩⟩) ?_
    rintro d ⟨r, hp, rfl⟩
    have h := hS r hp
    cases r with
    | none =>
      refine ex_if (A := Eq (isNon .none)) (Cv.tvb (cv_isN (ev_nm 4)) rfl) (fun _ => ?_) (fun z => nomatch z)
      exact ex_ret (Ev.imp ev_non fun d e => by rw [← e]; exact h)
    | some x =>
      refine ex_if (A := Eq (isNon (dicD (mkT (goingOf c st) x)))) (Cv.tvb (cv_isN (ev_nm 4)) rfl) (fun z => nomatch z) (fun _ => ?_)
      refine ex_nil (ex_setN 5 (f := .lst []) hN evn_lst0 ?_)
      refine ex_forD [6, 7] (enc := fun q : Int × Nat => .tuple [.int (q.2 : Int), .int q.1]) (L := c.eds.zipIdx) (fun i e => ∃ (z6 z7 : Ent), e = [.dat (dC c), .dat (.int t), .dat (dI st), .dat (.tuple []), .dat (dicD (mkT (goingOf c st) x)), .lst ((c.eds.zipIdx.take i).map fun q => dI ((rngI (gI st (q.2 : Int)) q.1).map fun a => x ((q.2 : Int), a + 1))), z6, z7, .unk]) .never rfl (by rw [← enumD_map]; exact wk_enum false W.g.enum (ev_ixT (ev_nm 0).r ev_int rfl)) ⟨_, _, rfl⟩ ?_ ?_
      · rintro i ⟨l, j⟩ es' hi ⟨z6, z7, rfl⟩
        have hj' := List.mem_zipIdx_iff_getElem?.mp (List.mem_of_getElem? hi)
        have hj : c.eds[j]? = some l := hj'
        obtain ⟨hj1, _⟩ := List.getElem?_eq_some_iff.mp hj
        have hs := sok.at (v := (j : Int)) (by omega) (by omega)
        have hg := gI_at hj
        rw [hg] at hs
        have h4 := fit.ok.eds.num l (List.mem_of_getElem? hj)
        have h12 := fit.ok.eds.few
        refine ⟨_, bd_tup rfl (Bds.cons rfl (bd_nm 6 hN) (Bds.cons rfl (bd_nm 7 hN) .nil)), ?_⟩
        refine ex_app 5 rfl rfl (.inl rfl) (d := dI ((rngI (gI st (j : Int)) l).map fun a => x ((j : Int), a + 1))) ?_ (hl := ?_) (ex_nil ⟨.dat (.int (j : Int)), .dat (.int l), ?_⟩)
        · refine Ev.imp (ev_tupL W.g.tuple (Ev.r (ev_lc (own := [("at", 8)]) (L := rngI (gI st (j : Int)) l) (enc := .int) (c := fun _ => true) (f := fun a => .int (x ((j : Int), a + 1))) rfl hN (blkOk_by (by kernel_rfl)) (by
            rw [← rngL_map]
            exact wk_rng2 W.g.range (ev_ixT (ds := st.map .int) (ev_nm 2).r (ev_nm 6) (atI_g (by omega) (by rw [sok.len]; omega))) (ev_nm 7) (by omega)) (sz (by rw [rngI_len]; omega)) (fun a ha => ⟨[.dat (dC c), .dat (.int t), .dat (dI st), .dat (.tuple []), .dat (dicD (mkT (goingOf c st) x)), .lst ((c.eds.zipIdx.take i).map fun q => dI ((rngI (gI st (q.2 : Int)) q.1).map fun a => x ((q.2 : Int), a + 1))), .dat (.int (j : Int)), .dat (.int l), .dat (.int a)], fun s H c' cl fp => ⟨bd_nm 8 hN, tvs_nil, fun _ => ?_⟩⟩)))) fun d e => ?_
          · obtain ⟨a1, a2⟩ := mem_rngI.mp ha
            exact ev_dget (k := [(j : Int), a + 1]) hr (Ev.r (ev_nm 4)) (ev_tup (evs_cons (ev_nm 6) (evs_cons (ev_add (ev_nm 8) ev_int) evs_nil))) (lk_some (a := ((j : Int), a + 1)) (mem_going.mpr ⟨mem_everyEx.mpr ⟨by simp, by simp; omega, by show (1 : Int) ≤ a + 1; omega, by show a + 1 ≤ gI c.eds (j : Int); rw [hg]; omega⟩, by show gI st (j : Int) < a + 1; omega⟩))
          · rw [← e, ft]
            show PyData.tuple (List.map _ (List.map _ _)) = PyData.tuple (List.map _ _)
            rw [List.map_map]
            rfl
        · rw [take_snoc hi, List.map_append]
          rfl
        · rw [List.length_map, List.length_take, List.length_zipIdx]
          exact Nat.lt_of_le_of_lt (by omega : _ ≤ 12) (by decide)
      · rintro es' ⟨z6, z7, rfl⟩
        rw [List.take_length]
        refine ex_ret (Ev.imp (ev_tupL W.g.tuple (evr_lst 5)) fun d e => ?_)
        rw [← e]
        have h' : S (.tuple ((restX c.eds st x).map dI)) := h
        unfold restX at h'
        rw [List.map_map] at h'
        exact h'
def spMidst : SpP := fun as S => ∃ (c : Clk) (t : Int) (st : List Int), as = [.dat (dC c), .dat (.int t), .dat (dI st)] ∧ c.Fit ∧ 0 ≤ t ∧ t ≤ 10 ^ 30 ∧ StOk c st ∧ S .none
theorem fn_midst (W : Wd T K mg base) : Fn T P w K mg base 5 "need_midst" spMidst [] := by
  have hN : (["clock", "tick", "standing"] : List Str).Nodup := by decide +kernel
  obtain ⟨fd, hm, F⟩ := (W.dv 31 _ rfl).ex
  refine Fn.make (N := ["clock", "tick", "standing"]) (ps := ["clock", "tick", "standing"]) F hm ⟨rfl, rfl, rfl, by decide +kernel, rfl, by decide +kernel, by decide +kernel⟩ ?_ (fun _ _ _ _ _ _ us hl => match us, hl with | [_, _, _], _ => rfl) ?_
  · rintro as S ⟨c, t, st, rfl, _⟩
    exact ⟨rfl, by simp [Ent.isOwn]⟩
  · rintro cdv A outer s H E hr as S ⟨c, t, st, rfl, fit, t0, t1, sok, hS⟩
    refine ex_expr (ev_callD (fn_clock W) (hr.mono (by decide)) (ar_cons (ev_nm 0) ar_nil) ⟨c, rfl, fit.ok, fit.b, trivial⟩) ?_
    refine ex_expr (ev_callD (fn_tick W) (hr.mono (by decide)) (ar_cons (ev_nm 1) ar_nil) ⟨t, rfl, t0, t1, trivial⟩) ?_
    refine ex_expr (ev_callD (fn_stand W) (hr.mono (by decide)) (ar_cons (ev_nm 0) (ar_cons (ev_nm 2) ar_nil)) ⟨c, st, rfl, fit, sok, trivial⟩) (ex_nil hS)
def spRest : SpP := fun as S => ∃ (c : Clk) (t : Int) (st : List Int), as = [.dat (dC c), .dat (.int t), .dat (dI st)] ∧ c.Fit ∧ 0 ≤ t ∧ t ≤ 10 ^ 30 ∧ StOk c st ∧ ∀ r, RestPost c st t r → S (rsD c st r)
theorem fn_rest (W : Wd T K mg base) : Fn T P w K mg base 6 "rest" spRest [] := by
  have hN : (["clock", "tick", "standing"] : List Str).Nodup := by decide +kernel
  obtain ⟨fd, hm, F⟩ := (W.dv 32 _ rfl).ex
  refine Fn.make (N := ["clock", "tick", "standing"]) (ps := ["clock", "tick", "standing"]) F hm ⟨rfl, rfl, rfl, by decide +kernel, rfl, by decide +kernel, by decide +kernel⟩ ?_ (fun _ _ _ _ _ _ us hl => match us, hl with | [_, _, _], _ => rfl) ?_
  · rintro as S ⟨c, t, st, rfl, _⟩
    exact ⟨rfl, by simp [Ent.isOwn]⟩
  · rintro cdv A outer s H E hr as S ⟨c, t, st, rfl, fit, t0, t1, sok, hS⟩
    refine ex_expr (ev_callD (fn_midst W) (hr.mono (by decide)) (ar_cons (ev_nm 0) (ar_cons (ev_nm 1) (ar_cons (ev_nm 2) ar_nil))) ⟨c, t, st, rfl, fit, t0, t1, sok, trivial⟩) ?_
    exact ex_ret (ev_callD (fn_restOf W) (hr.mono (by decide)) (ar_cons (ev_nm 0) (ar_cons (ev_nm 1) (ar_cons (ev_nm 2) ar_nil))) ⟨c, t, st, rfl, fit, sok, hS⟩)
end
end DL
end
section
set_option Elab.async false
set_option linter.all false
set_option autoImplicit false
set_option maxRecDepth 100000
set_option maxHeartbeats 2000000
/-! Plain: the mirror's book. -/
namespace MA
open DL (Goes Leans lkD putD dicOf KD encT)
@[elab_as_elim] theorem snocInd {α : Type} {P : List α → Prop} (nil : P []) (append_singleton : ∀ l b, P l → P (l ++ [b])) (l : List α) : P l := by
  have h : ∀ r : List α, P r.reverse := fun r => by
    induction r with
    | nil => exact nil
    | cons x r ih => rw [List.reverse_cons]; exact append_singleton _ _ ih
  have := h l.reverse
  rw [List.reverse_reverse] at this
  exact this
def mkey (c : Clk) (b : Int × Int × Int × Int) : List Int := [b.2.2.1, gI c.eds b.2.2.1 - b.2.2.2 + 1, b.1]
def mval (c : Clk) (b : Int × Int × Int × Int) : Int := gI c.eds b.1 - b.2.1 + 1
def mir1 (c : Clk) (acc : KD) (b : Int × Int × Int × Int) : KD := putD acc (mkey c b) (max ((lkD acc (mkey c b)).getD 0) (mval c b))
def mirL (c : Clk) (l : List (Int × Int × Int × Int)) : KD := l.foldl (mir1 c) []
def srtK (l : List (List Int)) : List (List Int) := l.mergeSort (PySem.W.dataLe false encT)
def mirRow (kvs : KD) (k : List Int) : Int × Int × Int × Int := (k.getD 0 0, k.getD 1 0, k.getD 2 0, (lkD kvs k).getD 0)
def mirBk (c : Clk) : List (Int × Int × Int × Int) := (srtK ((mirL c c.bk).map (·.1))).map (mirRow (mirL c c.bk))
def mir (c : Clk) : Clk := { c with bk := mirBk c }
theorem mirL_snoc (c : Clk) (l : List (Int × Int × Int × Int)) (b : Int × Int × Int × Int) : mirL c (l ++ [b]) = mir1 c (mirL c l) b := by
  unfold mirL
  rw [List.foldl_append]
  rfl
theorem mirL_len (c : Clk) (l : List (Int × Int × Int × Int)) : (mirL c l).length ≤ l.length := by
  induction l using snocInd with
  | nil => exact Nat.le_refl _
  | append_singleton l b ih =>
    rw [mirL_snoc, List.length_append, List.length_singleton]
    have : (mir1 c (mirL c l) b).length ≤ (mirL c l).length + 1 := putD_len _ _ _
    omega
/-- what the dict holds: at a key the greatest value -/
structure MirI (c : Clk) (l : List (Int × Int × Int × Int)) (kvs : KD) : Prop where
  some_ : ∀ k v, lkD kvs k = some v → (∃ b ∈ l, mkey c b = k ∧ mval c b = v) ∧ ∀ b ∈ l, mkey c b = k → mval c b ≤ v
  has : ∀ b ∈ l, ∃ v, lkD kvs (mkey c b) = some v
  key : ∀ k ∈ kvs.map (·.1), ∃ b ∈ l, mkey c b = k
  nodup : (kvs.map (·.1)).Nodup
theorem putD_keys {kvs : KD} {k : List Int} {v : Int} : (putD kvs k v).map (·.1) = if k ∈ kvs.map (·.1) then kvs.map (·.1) else kvs.map (·.1) ++ [k] := by
  have e : (kvs.any fun q => decide (q.1 = k)) = true ↔ k ∈ kvs.map (·.1) := by
    rw [List.any_eq_true, List.mem_map]
    constructor
    · rintro ⟨q, h1, h2⟩
      exact ⟨q, h1, of_decide_eq_true h2⟩
    · rintro ⟨q, h1, h2⟩
      exact ⟨q, h1, decide_eq_true h2⟩
  unfold putD
  by_cases h : k ∈ kvs.map (·.1)
  · rw [if_pos (e.mpr h), if_pos h, List.map_map]
    refine List.map_congr_left fun q _ => ?_
    show (if q.1 = k then (q.1, v) else q).1 = q.1
    split <;> rfl
  · rw [if_neg (fun z => h (e.mp z)), if_neg h, List.map_append]
    rfl
theorem mirL_I {c : Clk} {l : List (Int × Int × Int × Int)} (hv : ∀ b ∈ l, 0 < mval c b) : MirI c l (mirL c l) := by
  induction l using snocInd with
  | nil => exact ⟨fun k v h => (nomatch h), fun b hb => (nomatch hb), fun k hk => (nomatch hk), List.nodup_nil⟩
  | append_singleton l b ih =>
    have ih := ih fun b' hb => hv b' (List.mem_append_left _ hb)
    have hb := hv b (List.mem_append_right _ (List.mem_singleton.mpr rfl))
    rw [mirL_snoc]
    unfold mir1
    refine ⟨fun k v h => ?_, fun b' hb' => ?_, fun k hk => ?_, ?_⟩
    · rw [lkD_put] at h
      split at h
      · rename_i e
        have h := Option.some.inj h
        cases hk : lkD (mirL c l) (mkey c b) with
        | none =>
          rw [hk, Option.getD_none] at h
          refine ⟨⟨b, List.mem_append_right _ (List.mem_singleton.mpr rfl), e.symm, by omega⟩, fun b' hb' e' => ?_⟩
          rcases List.mem_append.mp hb' with z | z
          · obtain ⟨v', hv'⟩ := ih.has b' z
            rw [e', e, hk] at hv'
            cases hv'
          · rw [List.mem_singleton.mp z]
            omega
        | some w =>
          rw [hk, Option.getD_some] at h
          obtain ⟨⟨b0, m0, e0, v0⟩, hmax⟩ := ih.some_ _ _ hk
          refine ⟨?_, fun b' hb' e' => ?_⟩
          · by_cases q : w ≤ mval c b
            · exact ⟨b, List.mem_append_right _ (List.mem_singleton.mpr rfl), e.symm, by omega⟩
            · exact ⟨b0, List.mem_append_left _ m0, by rw [e0, e], by omega⟩
          · rcases List.mem_append.mp hb' with z | z
            · have := hmax b' z (by rw [e', e])
              omega
            · rw [List.mem_singleton.mp z]
              omega
      · rename_i e
        obtain ⟨⟨b0, m0, e0, v0⟩, hmax⟩ := ih.some_ _ _ h
        refine ⟨⟨b0, List.mem_append_left _ m0, e0, v0⟩, fun b' hb' e' => ?_⟩
        rcases List.mem_append.mp hb' with z | z
        · exact hmax b' z e'
        · rw [List.mem_singleton.mp z] at e'
          exact absurd e'.symm e
    · rw [lkD_put]
      split
      · exact ⟨_, rfl⟩
      · rename_i e
        rcases List.mem_append.mp hb' with z | z
        · exact ih.has b' z
        · rw [List.mem_singleton.mp z] at e
          exact absurd rfl e
    · rw [putD_keys] at hk
      split at hk
      · obtain ⟨b', h1, h2⟩ := ih.key k hk
        exact ⟨b', List.mem_append_left _ h1, h2⟩
      · rcases List.mem_append.mp hk with z | z
        · obtain ⟨b', h1, h2⟩ := ih.key k z
          exact ⟨b', List.mem_append_left _ h1, h2⟩
        · exact ⟨b, List.mem_append_right _ (List.mem_singleton.mpr rfl), (List.mem_singleton.mp z).symm⟩
    · rw [putD_keys]
      split
      · exact ih.nodup
      · rename_i e
        exact List.nodup_append.mpr ⟨ih.nodup, List.nodup_cons.mpr ⟨List.not_mem_nil, List.nodup_nil⟩, fun a ha b' hb' z => by
          rw [List.mem_singleton.mp hb'] at z
          rw [z] at ha
          exact e ha⟩
theorem mval_pos {c : Clk} (ok : BkOk c.eds c.bk) : ∀ b ∈ c.bk, 0 < mval c b := fun b hb => by
  have := ok.num b hb
  unfold mval
  omega
theorem mir_I {c : Clk} (ok : BkOk c.eds c.bk) : MirI c c.bk (mirL c c.bk) := mirL_I (mval_pos ok)
end MA
end
section
set_option Elab.async false
set_option linter.all false
set_option autoImplicit false
set_option maxRecDepth 100000
set_option maxHeartbeats 2000000
/-! The defs: mirrors, cuts. -/
namespace DL
open PySem PySem.Spec L2
open PyProof.Rows hiding St
open MA
section
variable {T : Addr → Prop} {X : Cx} {es : List Ent} {a b : Expr} {pos : Pos} {rest : List Stmt} {P : Po}
/-- x, y = e, e', one of the names captured -/
theorem ex_parC (i j : Nat) {x y : Str} {f f' : Ent} {px py pt : Pos} {kt k2 : Nat} {pt2 : Pos} (hc : X.calm = true) (hN : X.N.Nodup) (ha : EvN T X es a f) (hb : EvN T X es b f') (hr : Ex T X ((es.set i f).set j f') rest P) (hi : X.N[i]? = some x := by rfl) (hj : X.N[j]? = some y := by rfl)
    (hx : Loc X.env.scope x := by first | exact Or.inl rfl | exact Or.inr rfl) (hy : Loc X.env.scope y := by first | exact Or.inl rfl | exact Or.inr rfl) (fx : X.fn x = true ∨ X.env.scope.names.lookup x = some .local := by first | exact .inl rfl | exact .inr rfl) (fy : X.fn y = true ∨ X.env.scope.names.lookup y = some .local := by first | exact .inl rfl | exact .inr rfl)
    (hw : swappedStores [.Tuple [.Name x px, .Name y py] kt pt] (.Tuple [a, b] k2 pt2) X.env = pure none := by rfl)
    (hs : swapsWithSole [.Tuple [.Name x px, .Name y py] kt pt] (.Tuple [a, b] k2 pt2) pos.line X.env = pure false := by rfl)
    (h1 : starEach [a, b] X.env = (false, eval a X.env) :: starEach [b] X.env := by rfl) (h2 : starEach [b] X.env = (false, eval b X.env) :: starEach [] X.env := by rfl)
    (h3 : (assignEach [.Tuple [.Name x px, .Name y py] kt pt] X.env).map (·.2) = [assign (.Tuple [.Name x px, .Name y py] kt pt) X.env] := by rfl)
    (h4 : (assignEach [.Name x px, .Name y py] X.env).map (·.2) = assign (.Name x px) X.env :: (assignEach [.Name y py] X.env).map (·.2) := by rfl)
    (h5 : (assignEach [.Name y py] X.env).map (·.2) = assign (.Name y py) X.env :: (assignEach [] X.env).map (·.2) := by rfl)
    (h6 : (assignEach [.Name x px, .Name y py] X.env).length = 2 := by rfl) (h7 : (assignEach [.Name x px, .Name y py] X.env).findIdx? (·.1) = none := by rfl) :
    Ex T X es (.Assign [.Tuple [.Name x px, .Name y py] kt pt] (.Tuple [a, b] k2 pt2) pos :: rest) P :=
  ex_cons fun p H σ D g o fi => wS1_of (ps_asg (pe_tup (pa_cons pe_w (pa_cons pe_w pa_nil h2) h1)) (pg_tup (n := 2) hc (pgs_cons (pg_name hN hi hx fx) (pgs_cons (pg_name hN hj hy fy) pgs_nil h5) h4) h6 h7) hs hw h3)
    (ha p H σ _ g o fun p1 H1 v s1 o1 f1 => hb p1 H1 σ _ s1.st.good (o.goN g s1) fun p2 H2 w s2 o2 f2 =>
      ⟨by show 2 ≤ sizeLine; decide, fun q hq => ⟨q, [v, w], rfl, .inl (.inl upd_same), rfl, _, _, rfl, _, _, rfl, rfl,
        fi.nx _ p2 _ _ ((s1.st.trans s2.st).trans (.of_gr s2.st.good (gr_new hq))) hr (((o.setN g s1 o1 f1).setN s1.st.good s2 o2 f2).go s2.st.good (gr_new hq))⟩⟩)
end
section
variable {T : Addr → Prop} {P : Program} {w : World} {K : PySem.W.Frag} {mg : Str → Option Value} {base : Heap}
open LHead
def spMirOf : SpP := fun as S => ∃ (c : Clk), as = [.dat (dC c)] ∧ c.Fit ∧ S (dC (mir c))
theorem mkey3 {c : Clk} {k : List Int} (h : ∃ b ∈ c.bk, mkey c b = k) : ∃ x y z, k = [x, y, z] := by
  obtain ⟨b, _, rfl⟩ := h
  exact ⟨_, _, _, rfl⟩
theorem fn_mirOf (W : Wd T K mg base) : Fn T P w K mg base 2 "mirror_of" spMirOf [] := by
  have hN : (["clock", "lasts", "needs", "wheel", "edition", "other", "least", "key"] : List Str).Nodup := by decide +kernel
  obtain ⟨fd, hm, F⟩ := (W.dv 33 _ rfl).ex
  refine Fn.make (N := ["clock", "lasts", "needs", "wheel", "edition", "other", "least", "key"]) (ps := ["clock"]) F hm ⟨rfl, rfl, rfl, by decide +kernel, rfl, by decide +kernel, by decide +kernel⟩ ?_ (fun _ _ _ _ _ _ us hl => match us, hl with | [_], _ => rfl) ?_
  · rintro as S ⟨c, rfl, _⟩
    exact ⟨rfl, by simp [Ent.isOwn]⟩
  · rintro cdv A outer s H E hr as S ⟨c, rfl, fit, hS⟩
    have lb := fit.b
    have lk := mirL_len c c.bk
    have I := mir_I fit.ok.bk
    refine ex_parC 1 2 (f := .dat (dI c.eds)) (f' := .dic []) rfl hN (evn_d (ev_ixT (ev_nm 0).r ev_int rfl)) evn_dic0 ?_
    refine ex_forD [3, 4, 5, 6] (enc := dT4) (L := c.bk) (fun i e => ∃ (z3 z4 z5 z6 z7 : Ent), e = [.dat (dC c), .dat (dI c.eds), .dic (mirL c (c.bk.take i)), z3, z4, z5, z6, z7]) .never rfl (wk_tup (ev_ixT (ev_nm 0).r ev_int rfl)) ⟨_, _, _, _, _, rfl⟩ ?_ ?_
    · rintro i ⟨w, e, o, l⟩ es' hi ⟨z3, z4, z5, z6, z7, rfl⟩
      have hb := fit.ok.bk.num _ (List.mem_of_getElem? hi)
      have h1 : atI (c.eds.map PyData.int) o = some (.int (gI c.eds o)) := atI_g hb.2.2.2.2.1 (by have := hb.2.2.2.2.2.1; have q : o ≤ (c.eds.length : Int) - 1 := this; omega)
      have h2 : atI (c.eds.map PyData.int) w = some (.int (gI c.eds w)) := atI_g hb.1 (by have := hb.2.1; have q : w ≤ (c.eds.length : Int) - 1 := this; omega)
      have la : (mirL c (c.bk.take i)).length ≤ 1000 := by
        have := mirL_len c (c.bk.take i)
        rw [List.length_take] at this
        omega
      rw [take_snoc hi, mirL_snoc]
      refine ⟨_, bd_tup rfl (Bds.cons rfl (bd_nm 3 hN) (Bds.cons rfl (bd_nm 4 hN) (Bds.cons rfl (bd_nm 5 hN) (Bds.cons rfl (bd_nm 6 hN) .nil)))), ?_⟩
      refine ex_setD 7 (d := .tuple ((mkey c (w, e, o, l)).map .int)) hN (ev_tup (evs_cons (ev_nm 5) (evs_cons (ev_add (ev_sub (ev_ixT (ev_nm 1).r (ev_nm 5) h1) (ev_nm 6)) ev_int) (evs_cons (ev_nm 3) evs_nil)))) ?_
      refine ex_put 2 (k := mkey c (w, e, o, l)) (v := max ((lkD (mirL c (c.bk.take i)) (mkey c (w, e, o, l))).getD 0) (mval c (w, e, o, l))) hr rfl rfl (.inr (.inl rfl)) (ev_max2 rfl W.g.max (ev_dgetD (k := mkey c (w, e, o, l)) hr (evr_dic 2) (ev_nm 7) ev_int) (ev_add (ev_sub (ev_ixT (ev_nm 1).r (ev_nm 3) h2) (ev_nm 4)) ev_int)) (ev_nm 7) (ex_nil ⟨_, _, _, _, _, rfl⟩) (Nat.lt_of_le_of_lt la (by decide))
    · rintro es' ⟨z3, z4, z5, z6, z7, rfl⟩
      rw [List.take_length]
      have hk : ∀ q ∈ mirL c c.bk, q.1 ≠ [] := fun q hq => by
        obtain ⟨x, y, z, e⟩ := mkey3 (I.key q.1 (List.mem_map.mpr ⟨q, hq, rfl⟩))
        rw [e]
        exact List.cons_ne_nil _ _
      refine ex_ret (Ev.imp (ev_catT ((ev_upto (ds := [.int c.p, dI c.eds, .tuple (c.tch.map dT3), .tuple (c.gps.map dI), .tuple (c.bk.map dT4)]) (n := 4) (ev_nm 0))) (ev_tup (evs_cons (ev_tupL W.g.tuple (Ev.r (ev_lc (own := [("key", 7)]) (enc := encT) (L := srtK ((mirL c c.bk).map (·.1))) (c := fun _ => true) (f := fun k => dT4 (mirRow (mirL c c.bk) k)) rfl hN (blkOk_by (by kernel_rfl)) (wk_lst (ev_srtD hr rfl W.g.sorted (evr_dic 2) hk)) ?_ (fun k hkm => ⟨[.dat (dC c), .dat (dI c.eds), .dic (mirL c c.bk), z3, z4, z5, z6, .dat (encT k)], fun s H c' cl fp => ⟨bd_nm 7 hN, tvs_nil, fun _ => ?_⟩⟩)))) evs_nil)) (sz (by show 4 + 1 ≤ _; decide))) fun d e => ?_)
      · unfold srtK
        rw [List.length_mergeSort, List.length_map]
        exact sz (by omega)
      · have hkm' : k ∈ (mirL c c.bk).map (·.1) := by
          unfold srtK at hkm
          exact (List.mem_mergeSort).mp hkm
        obtain ⟨b, hb, eb⟩ := I.key k hkm'
        obtain ⟨x, y, z, e⟩ := mkey3 ⟨b, hb, eb⟩
        obtain ⟨v, hv⟩ := I.has b hb
        rw [eb] at hv
        subst e
        have e2 : dT4 (mirRow (mirL c c.bk) [x, y, z]) = .tuple ([.int x, .int y, .int z] ++ [.int v]) := by
          unfold mirRow
          rw [hv]
          rfl
        rw [e2]
        exact ev_catT (ev_nm 7) (ev_tup (evs_cons (ev_dget (k := [x, y, z]) hr (evr_dic 2) (ev_nm 7) hv) evs_nil)) (sz (by show 3 + 1 ≤ _; decide))
      · rw [← e, ft]
        have : PyData.tuple (List.take 4 [.int c.p, dI c.eds, .tuple (c.tch.map dT3), .tuple (c.gps.map dI), .tuple (c.bk.map dT4)] ++ [.tuple ((srtK ((mirL c c.bk).map (·.1))).map fun k => dT4 (mirRow (mirL c c.bk) k))]) = dC (mir c) := by
          show _ = PyData.tuple [.int c.p, dI c.eds, .tuple (c.tch.map dT3), .tuple (c.gps.map dI), .tuple ((mirBk c).map dT4)]
          unfold mirBk
          rw [List.map_map]
          rfl
        rw [this]
        exact hS
def spMirror : SpP := spMirOf
theorem fn_mirror (W : Wd T K mg base) : Fn T P w K mg base 5 "mirror" spMirror [] := by
  have hN : (["clock"] : List Str).Nodup := by decide +kernel
  obtain ⟨fd, hm, F⟩ := (W.dv 34 _ rfl).ex
  refine Fn.make (N := ["clock"]) (ps := ["clock"]) F hm ⟨rfl, rfl, rfl, by decide +kernel, rfl, by decide +kernel, by decide +kernel⟩ ?_ (fun _ _ _ _ _ _ us hl => match us, hl with | [_], _ => rfl) ?_
  · rintro as S ⟨c, rfl, _⟩
    exact ⟨rfl, by simp [Ent.isOwn]⟩
  · rintro cdv A outer s H E hr as S ⟨c, rfl, fit, hS⟩
    refine ex_expr (ev_callD (fn_clock W) (hr.mono (by decide)) (ar_cons (ev_nm 0) ar_nil) ⟨c, rfl, fit.ok, fit.b, trivial⟩) ?_
    exact ex_ret (ev_callD (fn_mirOf W) (hr.mono (by decide)) (ar_cons (ev_nm 0) ar_nil) ⟨c, rfl, fit, hS⟩)
end
end DL
end
section
set_option Elab.async false
set_option linter.all false
set_option autoImplicit false
set_option maxRecDepth 100000
set_option maxHeartbeats 2000000
/-! The defs: backwards, cuts, led, flipped. -/
namespace MA
def T3 (k : List Int) : Int × Int × Int := (k.getD 0 0, k.getD 1 0, k.getD 2 0)
def bwT (c : Clk) : List (Int × Int × Int) := (srtK (c.tch.map fun t => [(-1 - t.1) % c.p, t.2.1, t.2.2])).map T3
def bwG (c : Clk) : List (List Int) := c.gps.map fun g => (g.map fun x => (-x) % c.p).mergeSort fun x y => decide (x ≤ y)
def bw0 (c : Clk) : Clk := { c with tch := bwT c, gps := bwG c }
def bw (c : Clk) : Clk := mir (bw0 c)
def bad (c : Clk) (g : List Int) (b : Int × Int × Int × Int) : Bool := decide (b.2.1 ≤ gI g b.1) && (!decide (b.2.2.2 ≤ gI g b.2.2.1) && !(phases c b.1 b.2.2.1).isEmpty)
def keepB (g : List Int) (b : Int × Int × Int × Int) : Bool := decide (b.2.1 ≤ gI g b.1) && decide (b.2.2.2 ≤ gI g b.2.2.1)
def cutC (c : Clk) (g : List Int) : Clk := { c with eds := g, bk := c.bk.filter (keepB g) }
def flipS (eds st : List Int) : List Int := (eds.zip st).map fun q => q.1 - q.2
structure LedOk (c : Clk) (st g : List Int) : Prop where
  fit : c.Fit
  goal : StOk c g
  cut : (∀ b ∈ c.bk, bad c g b = false) → (cutC c g).Fit ∧ StOk (cutC c g) st
end MA
namespace DL
open PySem PySem.Spec L2
open PyProof.Rows hiding St
open MA
structure LedS (c : Clk) (t : Int) (st g : List Int) (S : D → Prop) : Prop where
  no : (∃ b ∈ c.bk, bad c g b = true) → S .none
  yes : (∀ b ∈ c.bk, bad c g b = false) → ∀ r, RestPost (cutC c g) st t r → S (rsD (cutC c g) st r)
section
variable {T : Addr → Prop} {P : Program} {w : World} {K : PySem.W.Frag} {mg : Str → Option Value} {base : Heap}
open LHead
def spFlip : SpP := fun as S => ∃ (c : Clk) (st : List Int), as = [.dat (dC c), .dat (dI st)] ∧ c.Fit ∧ S (dI (flipS c.eds st))
theorem fn_flip (W : Wd T K mg base) : Fn T P w K mg base 1 "flipped" spFlip [] := by
  have hN : (["clock", "standing", "last", "edition"] : List Str).Nodup := by decide +kernel
  obtain ⟨fd, hm, F⟩ := (W.dv 38 _ rfl).ex
  refine Fn.make (N := ["clock", "standing", "last", "edition"]) (ps := ["clock", "standing"]) F hm ⟨rfl, rfl, rfl, by decide +kernel, rfl, by decide +kernel, by decide +kernel⟩ ?_ (fun _ _ _ _ _ _ us hl => match us, hl with | [_, _], _ => rfl) ?_
  · rintro as S ⟨c, st, rfl, _⟩
    exact ⟨rfl, by simp [Ent.isOwn]⟩
  · rintro cdv A outer s H E hr as S ⟨c, st, rfl, fit, hS⟩
    have h12 := fit.ok.eds.few
    refine ex_ret (Ev.imp (ev_tupL W.g.tuple (Ev.r (ev_lc (own := [("last", 2), ("edition", 3)]) (L := c.eds.zip st) (enc := fun q => .tuple [.int q.1, .int q.2]) (c := fun _ => true) (f := fun q => .int (q.1 - q.2)) rfl hN (blkOk_by (by kernel_rfl)) (by rw [← zipD2_map]; exact wk_zip2 false false W.g.zip (ev_ixT (ev_nm 0).r ev_int rfl) (ev_nm 1)) (sz (by rw [List.length_zip]; omega)) (fun q hq => ⟨[.dat (dC c), .dat (dI st), .dat (.int q.1), .dat (.int q.2)], fun s H c' cl fp => ⟨bd_tup rfl (Bds.cons rfl (bd_nm 2 hN) (Bds.cons rfl (bd_nm 3 hN) .nil)), tvs_nil, fun _ => ev_sub (ev_nm 2) (ev_nm 3)⟩⟩)))) fun d e => ?_)
    rw [← e, ft]
    unfold flipS dI at hS
    rw [List.map_map] at hS
    exact hS
def spCut : SpP := fun as S => ∃ (c : Clk) (g : List Int), as = [.dat (dC c), .dat (dI g)] ∧ c.Fit ∧ StOk c g ∧ ((∃ b ∈ c.bk, bad c g b = true) → S .none) ∧ ((∀ b ∈ c.bk, bad c g b = false) → S (dC (cutC c g)))
theorem fn_cut (W : Wd T K mg base) : Fn T P w K mg base 2 "cut_to" spCut [] := by
  have hN : (["clock", "goal", "book", "wheel", "edition", "other", "least"] : List Str).Nodup := by decide +kernel
  obtain ⟨fd, hm, F⟩ := (W.dv 36 _ rfl).ex
  refine Fn.make (N := ["clock", "goal", "book", "wheel", "edition", "other", "least"]) (ps := ["clock", "goal"]) F hm ⟨rfl, rfl, rfl, by decide +kernel, rfl, by decide +kernel, by decide +kernel⟩ ?_ (fun _ _ _ _ _ _ us hl => match us, hl with | [_, _], _ => rfl) ?_
  · rintro as S ⟨c, g, rfl, _⟩
    exact ⟨rfl, by simp [Ent.isOwn]⟩
  · rintro cdv A outer s H E hr as S ⟨c, g, rfl, fit, gok, hS1, hS2⟩
    have lb := fit.b
    refine ex_setN 2 (f := .lst []) hN evn_lst0 ?_
    refine ex_forD [3, 4, 5, 6] (enc := dT4) (L := c.bk) (fun i e => (∀ b ∈ c.bk.take i, bad c g b = false) ∧ ∃ (z3 z4 z5 z6 : Ent), e = [.dat (dC c), .dat (dI g), .lst (((c.bk.take i).filter (keepB g)).map dT4), z3, z4, z5, z6]) .never rfl (wk_tup (ev_ixT (ev_nm 0).r ev_int rfl)) ⟨fun b hb => (nomatch hb), _, _, _, _, rfl⟩ ?_ ?_
    · rintro i ⟨w, e, o, l⟩ es' hi ⟨hbad, z3, z4, z5, z6, rfl⟩
      have hb := fit.ok.bk.num _ (List.mem_of_getElem? hi)
      have h1 : atI (g.map PyData.int) o = some (.int (gI g o)) := atI_g hb.2.2.2.2.1 (by have := hb.2.2.2.2.2.1; have q : o ≤ (c.eds.length : Int) - 1 := this; rw [gok.len]; omega)
      have h2 : atI (g.map PyData.int) w = some (.int (gI g w)) := atI_g hb.1 (by have := hb.2.1; have q : w ≤ (c.eds.length : Int) - 1 := this; rw [gok.len]; omega)
      have hnext : bad c g (w, e, o, l) = false → ∀ b ∈ c.bk.take (i + 1), bad c g b = false := fun q b hb' => by
        rw [take_snoc hi] at hb'
        rcases List.mem_append.mp hb' with z | z
        · exact hbad b z
        · rw [List.mem_singleton.mp z]
          exact q
      refine ⟨_, bd_tup rfl (Bds.cons rfl (bd_nm 3 hN) (Bds.cons rfl (bd_nm 4 hN) (Bds.cons rfl (bd_nm 5 hN) (Bds.cons rfl (bd_nm 6 hN) .nil)))), ?_⟩
      refine ex_if (A := Eq (decide (e ≤ gI g w))) (Cv.tvb (cv_le (ev_nm 4) (ev_ixT (ds := g.map .int) (ev_nm 1).r (ev_nm 3) h2)) rfl) (fun q1 => ?_) (fun q1 => ?_)
      · refine ex_if (A := Eq (decide (l ≤ gI g o))) (Cv.tvb (cv_le (ev_nm 6) (ev_ixT (ds := g.map .int) (ev_nm 1).r (ev_nm 5) h1)) rfl) (fun q2 => ?_) (fun q2 => ?_)
        · have e1 : bad c g (w, e, o, l) = false := by unfold bad; simp [q2]
          have e2 : keepB g (w, e, o, l) = true := by unfold keepB; simp [q1, q2]
          refine ex_app 2 rfl rfl (.inl rfl) (d := dT4 (w, e, o, l)) (ev_tup (evs_cons (ev_nm 3) (evs_cons (ev_nm 4) (evs_cons (ev_nm 5) (evs_cons (ev_nm 6) evs_nil))))) (hl := ?_) (ex_nil (ex_nil (ex_nil ⟨hnext e1, .dat (.int w), .dat (.int e), .dat (.int o), .dat (.int l), ?_⟩)))
          · rw [take_snoc hi, List.filter_append, List.map_append, List.filter_cons_of_pos (by exact e2)]
            rfl
          · rw [List.length_map]
            have := List.length_filter_le (keepB g) (c.bk.take i)
            rw [List.length_take] at this
            exact Nat.lt_of_le_of_lt (by omega : _ ≤ 1000) (by decide)
        · refine ex_if (A := Eq (!((phases c w o).map PyData.int).isEmpty)) (tv_lst (ds := (phases c w o).map .int) (Ev.r (ev_callD (fn_phases W) (hr.mono (by decide)) (ar_cons (ev_nm 0) (ar_cons (ev_nm 3) (ar_cons (ev_nm 5) ar_nil))) ⟨c, w, o, rfl, fit.t, rfl⟩))) (fun q3 => ?_) (fun q3 => ?_)
          · refine ex_ret (Ev.imp ev_non fun d z => ?_)
            rw [← z]
            refine hS1 ⟨_, List.mem_of_getElem? hi, ?_⟩
            unfold bad
            have q3' : (phases c w o).isEmpty = false := by simpa using q3
            simp [q1, q2, q3']
          · have q3' : (phases c w o).isEmpty = true := by simpa using q3
            have e1 : bad c g (w, e, o, l) = false := by unfold bad; simp [q3']
            have e2 : keepB g (w, e, o, l) = false := by unfold keepB; simp [q2]
            refine ex_nil (ex_nil (ex_nil (ex_nil ⟨hnext e1, .dat (.int w), .dat (.int e), .dat (.int o), .dat (.int l), ?_⟩)))
            rw [take_snoc hi, List.filter_append, List.filter_cons_of_neg (by rw [e2]; decide), List.filter_nil, List.append_nil]
            rfl
      · have e1 : bad c g (w, e, o, l) = false := by unfold bad; simp [q1]
        have e2 : keepB g (w, e, o, l) = false := by unfold keepB; simp [q1]
        refine ex_nil (ex_nil ⟨hnext e1, .dat (.int w), .dat (.int e), .dat (.int o), .dat (.int l), ?_⟩)
        rw [take_snoc hi, List.filter_append, List.filter_cons_of_neg (by rw [e2]; decide), List.filter_nil, List.append_nil]
        rfl
    · rintro es' ⟨hbad, z3, z4, z5, z6, rfl⟩
      rw [List.take_length] at hbad ⊢
      refine ex_ret (Ev.imp (ev_tup (evs_cons (ev_ixT (ev_nm 0).r ev_int rfl) (evs_cons (ev_nm 1) (evs_cons (ev_ixT (ev_nm 0).r ev_int rfl) (evs_cons (ev_ixT (ev_nm 0).r ev_int rfl) (evs_cons (ev_tupL W.g.tuple (evr_lst 2)) evs_nil)))))) fun d z => ?_)
      rw [← z]
      exact hS2 hbad
def spLed : SpP := fun as S => ∃ (c : Clk) (t : Int) (st g : List Int), as = [.dat (dC c), .dat (.int t), .dat (dI st), .dat (dI g)] ∧ LedOk c st g ∧ LedS c t st g S
theorem fn_led (W : Wd T K mg base) : Fn T P w K mg base 6 "led" spLed [] := by
  have hN : (["clock", "tick", "standing", "goal", "short"] : List Str).Nodup := by decide +kernel
  obtain ⟨fd, hm, F⟩ := (W.dv 37 _ rfl).ex
  refine Fn.make (N := ["clock", "tick", "standing", "goal", "short"]) (ps := ["clock", "tick", "standing", "goal"]) F hm ⟨rfl, rfl, rfl, by decide +kernel, rfl, by decide +kernel, by decide +kernel⟩ ?_ (fun _ _ _ _ _ _ us hl => match us, hl with | [_, _, _, _], _ => rfl) ?_
  · rintro as S ⟨c, t, st, g, rfl, _⟩
    exact ⟨rfl, by simp [Ent.isOwn]⟩
  · rintro cdv A outer s H E hr as S ⟨c, t, st, g, rfl, ok, hS⟩
    refine ex_set 4 hN (S := fun d => ((∃ b ∈ c.bk, bad c g b = true) ∧ d = .none) ∨ ((∀ b ∈ c.bk, bad c g b = false) ∧ d = dC (cutC c g))) (ev_callD (fn_cut W) (hr.mono (by decide)) (ar_cons (ev_nm 0) (ar_cons (ev_nm 3) ar_nil)) ⟨c, g, rfl, ok.fit, ok.goal, fun h => .inl ⟨h, rfl⟩, fun h => .inr ⟨h, rfl⟩⟩) ?_
    rintro d (⟨h, rfl⟩ | ⟨h, rfl⟩)
    · refine ex_ret (ev_ifE (A := Eq true) ?_ (fun _ => Ev.imp ev_non fun d e => by rw [← e]; exact hS.no h) (fun q => nomatch q))
      exact Cv.tvb (cv_isN (d := .none) (ev_nm 4)) rfl
    · refine ex_ret (ev_ifE (A := Eq false) ?_ (fun q => nomatch q) (fun _ => ?_))
      · exact Cv.tvb (cv_isN (d := dC (cutC c g)) (ev_nm 4)) rfl
      obtain ⟨f1, f2⟩ := ok.cut h
      exact ev_callD (fn_restOf W) (hr.mono (by decide)) (ar_cons (ev_nm 4) (ar_cons (ev_nm 1) (ar_cons (ev_nm 2) ar_nil))) ⟨cutC c g, t, st, rfl, f1, f2, hS.yes h⟩
def spBackOf : SpP := fun as S => ∃ (c : Clk) (t : Int) (st g : List Int), as = [.dat (dC c), .dat (.int t), .dat (dI st), .dat (dI g)] ∧ c.Fit ∧ LedOk (mir c) (flipS c.eds st) (flipS c.eds g) ∧ LedS (mir c) t (flipS c.eds st) (flipS c.eds g) S
theorem fn_backOf (W : Wd T K mg base) : Fn T P w K mg base 7 "back_of" spBackOf [] := by
  have hN : (["clock", "tick", "standing", "goal"] : List Str).Nodup := by decide +kernel
  obtain ⟨fd, hm, F⟩ := (W.dv 39 _ rfl).ex
  refine Fn.make (N := ["clock", "tick", "standing", "goal"]) (ps := ["clock", "tick", "standing", "goal"]) F hm ⟨rfl, rfl, rfl, by decide +kernel, rfl, by decide +kernel, by decide +kernel⟩ ?_ (fun _ _ _ _ _ _ us hl => match us, hl with | [_, _, _, _], _ => rfl) ?_
  · rintro as S ⟨c, t, st, g, rfl, _⟩
    exact ⟨rfl, by simp [Ent.isOwn]⟩
  · rintro cdv A outer s H E hr as S ⟨c, t, st, g, rfl, fit, ok, hS⟩
    exact ex_ret (ev_callD (fn_led W) (hr.mono (by decide)) (ar_cons (ev_callD (fn_mirOf W) (hr.mono (by decide)) (ar_cons (ev_nm 0) ar_nil) ⟨c, rfl, fit, rfl⟩) (ar_cons (ev_nm 1) (ar_cons (ev_callD (fn_flip W) (hr.mono (by decide)) (ar_cons (ev_nm 0) (ar_cons (ev_nm 2) ar_nil)) ⟨c, st, rfl, fit, rfl⟩) (ar_cons (ev_callD (fn_flip W) (hr.mono (by decide)) (ar_cons (ev_nm 0) (ar_cons (ev_nm 3) ar_nil)) ⟨c, g, rfl, fit, rfl⟩) ar_nil)))) ⟨mir c, t, _, _, rfl, ok, hS⟩)
end
end DL
end
section
set_option Elab.async false
set_option linter.all false
set_option autoImplicit false
set_option maxRecDepth 100000
set_option maxHeartbeats 2000000
/-! The defs: backwards. -/
namespace DL
open PySem PySem.Spec L2
open PyProof.Rows hiding St
open MA
section
variable {T : Addr → Prop} {P : Program} {w : World} {K : PySem.W.Frag} {mg : Str → Option Value} {base : Heap}
open LHead
/-- a rising list within bounds is short -/
theorem pw_len {l : List Int} (h : l.Pairwise (· < ·)) {lo hi : Int} (hb : ∀ x ∈ l, lo ≤ x ∧ x < hi) : (l.length : Int) ≤ max 0 (hi - lo) := by
  induction l generalizing lo with
  | nil => simp; omega
  | cons x l ih =>
    have hx := hb x List.mem_cons_self
    have := ih (List.pairwise_cons.mp h).2 (lo := x + 1) fun y hy => by
      have h1 := (List.pairwise_cons.mp h).1 y hy
      have h2 := hb y (List.mem_cons_of_mem _ hy)
      omega
    rw [List.length_cons]
    omega
theorem encT_T3 {x y z : Int} : encT [x, y, z] = dT3 (T3 [x, y, z]) := rfl
def spBack : SpP := fun as S => ∃ (c : Clk), as = [.dat (dC c)] ∧ c.Fit ∧ (bw0 c).Fit ∧ S (dC (bw c))
theorem fn_back (W : Wd T K mg base) : Fn T P w K mg base 5 "backwards" spBack [] := by
  have hN : (["clock", "period", "touches", "gaps", "phase", "one", "other", "phases"] : List Str).Nodup := by decide +kernel
  obtain ⟨fd, hm, F⟩ := (W.dv 35 _ rfl).ex
  refine Fn.make (N := ["clock", "period", "touches", "gaps", "phase", "one", "other", "phases"]) (ps := ["clock"]) F hm ⟨rfl, rfl, rfl, by decide +kernel, rfl, by decide +kernel, by decide +kernel⟩ ?_ (fun _ _ _ _ _ _ us hl => match us, hl with | [_], _ => rfl) ?_
  · rintro as S ⟨c, rfl, _⟩
    exact ⟨rfl, by simp [Ent.isOwn]⟩
  · rintro cdv A outer s H E hr as S ⟨c, rfl, fit, fit0, hS⟩
    have hp : 0 < c.p := by have := fit.ok.p1; omega
    have ht := fit.t
    have h12 := fit.ok.eds.few
    have hgl := fit.ok.gps.len
    have hgp : ∀ g ∈ c.gps, g.length ≤ 1000 := fun g hg => by
      have h1 := fit.ok.gps.up g hg
      have h2 := fit.ok.gps.num g hg
      have := pw_len h1 (lo := 0) (hi := c.p) fun x hx => by
        have := h2 x hx
        omega
      have := fit.ok.p2
      omega
    refine ex_expr (ev_callD (fn_clock W) (hr.mono (by decide)) (ar_cons (ev_nm 0) ar_nil) ⟨c, rfl, fit.ok, fit.b, trivial⟩) ?_
    refine ex_setD 1 hN (ev_ixT (ev_nm 0).r ev_int rfl) ?_
    refine ex_setD 2 (d := .tuple ((bwT c).map dT3)) hN (Ev.imp (ev_tupL W.g.tuple (Ev.r (ev_srtT (bs := c.tch.map fun t => [(-1 - t.1) % c.p, t.2.1, t.2.2]) hr W.g.sorted (Ev.r (Ev.imp (ev_lc (own := [("phase", 4), ("one", 5), ("other", 6)]) (L := c.tch) (enc := dT3) (c := fun _ => true) (f := fun t => encT [(-1 - t.1) % c.p, t.2.1, t.2.2]) rfl hN (blkOk_by (by kernel_rfl)) (wk_tup (ev_ixT (ev_nm 0).r ev_int rfl)) (sz (by omega)) (fun t ht => ⟨[.dat (dC c), .dat (.int c.p), .unk, .unk, .dat (.int t.1), .dat (.int t.2.1), .dat (.int t.2.2), .unk], fun s H c' cl fp => ⟨bd_tup rfl (Bds.cons rfl (bd_nm 4 hN) (Bds.cons rfl (bd_nm 5 hN) (Bds.cons rfl (bd_nm 6 hN) .nil))), tvs_nil, fun _ => ev_tup (evs_cons (ev_mod hp (ev_sub (ev_neg ev_int) (ev_nm 4)) (ev_nm 1)) (evs_cons (ev_nm 5) (evs_cons (ev_nm 6) evs_nil)))⟩⟩)) fun d e => ?_)) ?_))) fun d e => ?_) ?_
    · rw [← e, ft, List.map_map]
      rfl
    · intro b hb
      obtain ⟨t, _, rfl⟩ := List.mem_map.mp hb
      exact List.cons_ne_nil _ _
    · rw [← e]
      unfold bwT
      rw [List.map_map]
      congr 1
      refine List.map_congr_left fun k hk => ?_
      obtain ⟨t, _, rfl⟩ := List.mem_map.mp (List.mem_mergeSort.mp hk)
      rfl
    refine ex_setD 3 (d := .tuple ((bwG c).map dI)) hN (Ev.imp (ev_tupL W.g.tuple (Ev.r (ev_lc (own := [("phases", 7)]) (L := c.gps) (enc := dI) (c := fun _ => true) (f := fun g => dI ((g.map fun x => (-x) % c.p).mergeSort fun x y => decide (x ≤ y))) rfl hN (blkOk_by (by kernel_rfl)) (wk_tup (ev_ixT (ev_nm 0).r ev_int rfl)) (sz (by omega)) (fun g hg => ⟨[.dat (dC c), .dat (.int c.p), .dat (.tuple ((bwT c).map dT3)), .unk, .unk, .unk, .unk, .dat (dI g)], fun s H c' cl fp => ⟨bd_nm 7 hN, tvs_nil, fun _ => ?_⟩⟩)))) fun d e => ?_) ?_
    · refine ev_tupL W.g.tuple (Ev.r (ev_srtI (ns := g.map fun x => (-x) % c.p) hr W.g.sorted (Ev.r (Ev.imp (ev_lc (own := [("phase", 4)]) (L := g) (enc := .int) (c := fun _ => true) (f := fun x => .int ((-x) % c.p)) rfl hN (blkOk_by (by kernel_rfl)) (wk_tup (ev_nm 7)) (sz (by have := hgp g hg; omega)) (fun x hx => ⟨[.dat (dC c), .dat (.int c.p), .dat (.tuple ((bwT c).map dT3)), .unk, .dat (.int x), .unk, .unk, .dat (dI g)], fun s H c' cl fp => ⟨bd_nm 4 hN, tvs_nil, fun _ => ev_mod hp (ev_neg (ev_nm 4)) (ev_nm 1)⟩⟩)) fun d e => ?_))))
      rw [← e, ft, List.map_map]
      rfl
    · rw [← e, ft]
      unfold bwG
      rw [List.map_map]
      rfl
    exact ex_ret (ev_callD (fn_mirOf W) (hr.mono (by decide)) (ar_cons (ev_tup (evs_cons (ev_nm 1) (evs_cons (ev_ixT (ev_nm 0).r ev_int rfl) (evs_cons (ev_nm 2) (evs_cons (ev_nm 3) (evs_cons (ev_ixT (ev_nm 0).r ev_int rfl) evs_nil)))))) ar_nil) ⟨bw0 c, rfl, fit0, hS⟩)
end
end DL
end
section
set_option Elab.async false
set_option linter.all false
set_option autoImplicit false
set_option maxRecDepth 100000
set_option maxHeartbeats 2000000
/-! The law's own defs: need, flat, up. -/
namespace DL
open PySem PySem.Spec L2
open PyProof.Rows hiding St
open MA
def wD (ws : List (List Int)) : D := .tuple (ws.map dI)
section
variable {T : Addr → Prop} {P : Program} {w : World} {K : PySem.W.Frag} {mg : Str → Option Value} {base : Heap}
open LHead
theorem eqv_d2 {a b c d : Int} : PyData.eqv (.tuple [.int a, .int b]) (.tuple [.int c, .int d]) = decide ((a, b) = (c, d)) := by
  refine eqv_dec rfl rfl ?_
  rw [decide_eq_true_iff]
  constructor
  · intro q
    rw [show a = c from congrArg Prod.fst q, show b = d from congrArg Prod.snd q]
  · intro q
    injection q with q
    injection q with q1 q2
    injection q2 with q2 _
    injection q1 with q1
    injection q2 with q2
    exact Prod.ext q1 q2
def spLNeed : SpP := fun as S => ∃ (c : Clk) (v e o : Int), as = [.dat (dC c), .dat (.int v), .dat (.int e), .dat (.int o)] ∧ S (.int (leastN c v e o))
def lneed1 (c : Clk) (v e o : Int) (l : List (Int × Int × Int × Int)) : Int := maxI (0 :: ((l.filter fun b => decide (b.1 = v) && decide (b.2.2.1 = o)).filter fun b => decide (b.2.1 ≤ e)).map (·.2.2.2))
theorem lneed_snoc {c : Clk} {v e o : Int} {l : List (Int × Int × Int × Int)} {b : Int × Int × Int × Int} : lneed1 c v e o (l ++ [b]) = if ((b.1, b.2.2.1) = (v, o)) ∧ b.2.1 ≤ e then max (lneed1 c v e o l) b.2.2.2 else lneed1 c v e o l := by
  unfold lneed1
  rw [List.filter_append, List.filter_append, List.map_append]
  by_cases h : (b.1, b.2.2.1) = (v, o)
  · have h1 : b.1 = v := congrArg Prod.fst h
    have h2 : b.2.2.1 = o := congrArg Prod.snd h
    rw [List.filter_cons_of_pos (by simp [h1, h2]), List.filter_nil]
    by_cases h3 : b.2.1 ≤ e
    · rw [if_pos ⟨h, h3⟩, List.filter_cons_of_pos (by simp [h3])]
      show (0 :: (_ ++ [b.2.2.2])).tail.foldl max 0 = _
      rw [List.tail_cons, List.foldl_append]
      rfl
    · rw [if_neg (fun z => h3 z.2), List.filter_cons_of_neg (by simp [h3]), List.filter_nil, List.map_nil, List.append_nil]
  · rw [if_neg (fun z => h z.1), List.filter_cons_of_neg (by
      intro z
      rw [Bool.and_eq_true, decide_eq_true_iff, decide_eq_true_iff] at z
      exact h (Prod.ext z.1 z.2)), List.filter_nil, List.filter_nil, List.map_nil, List.append_nil]
theorem fn_lneed (W : Wd T K mg base) : Fn T P w K mg base 1 "_law_need" spLNeed [] := by
  have hN : (["_law_clock_here", "_law_wheel", "_law_own", "_law_other", "_law_found", "_law_one", "_law_edition", "_law_far", "_law_least"] : List Str).Nodup := by decide +kernel
  obtain ⟨fd, hm, F⟩ := (W.dv 47 _ rfl).ex
  refine Fn.make (N := ["_law_clock_here", "_law_wheel", "_law_own", "_law_other", "_law_found", "_law_one", "_law_edition", "_law_far", "_law_least"]) (ps := ["_law_clock_here", "_law_wheel", "_law_own", "_law_other"]) F hm ⟨rfl, rfl, rfl, by decide +kernel, rfl, by decide +kernel, by decide +kernel⟩ ?_ (fun _ _ _ _ _ _ us hl => match us, hl with | [_, _, _, _], _ => rfl) ?_
  · rintro as S ⟨c, v, e, o, rfl, _⟩
    exact ⟨rfl, by simp [Ent.isOwn]⟩
  · rintro cdv A outer s H E hr as S ⟨c, v, e, o, rfl, hS⟩
    refine ex_setD 4 hN ev_int ?_
    refine ex_forD [5, 6, 7, 8] (enc := dT4) (L := c.bk) (fun i es => ∃ (z5 z6 z7 z8 : Ent), es = [.dat (dC c), .dat (.int v), .dat (.int e), .dat (.int o), .dat (.int (lneed1 c v e o (c.bk.take i))), z5, z6, z7, z8]) .never rfl (wk_tup (ev_ixT (ev_nm 0).r ev_int rfl)) ⟨_, _, _, _, rfl⟩ ?_ ?_
    · rintro i b es' hi ⟨z5, z6, z7, z8, rfl⟩
      rw [take_snoc hi, lneed_snoc]
      generalize lneed1 c v e o (c.bk.take i) = f
      refine ⟨_, bd_tup rfl (Bds.cons rfl (bd_nm 5 hN) (Bds.cons rfl (bd_nm 6 hN) (Bds.cons rfl (bd_nm 7 hN) (Bds.cons rfl (bd_nm 8 hN) .nil)))), ?_⟩
      refine ex_if (A := Eq (decide ((b.1, b.2.2.1) = (v, o)) && decide (b.2.1 ≤ e))) (Wv.tv (wv_and (Tv.imp (Cv.tvb (cv_eqD (dx := .tuple [.int b.1, .int b.2.2.1]) (dy := .tuple [.int v, .int o]) (n := 1) hr (Ev.r (ev_tup (evs_cons (ev_nm 5) (evs_cons (ev_nm 7) evs_nil)))) (Ev.r (ev_tup (evs_cons (ev_nm 1) (evs_cons (ev_nm 3) evs_nil)))) rfl rfl) rfl) fun z q => by rw [← q, eqv_d2]) fun _ => wv_and1 (Cv.tvb (cv_le (ev_nm 6) (ev_nm 2)) rfl))) (fun q => ?_) (fun q => ?_)
      · rw [Bool.and_eq_true, decide_eq_true_iff, decide_eq_true_iff] at q
        rw [if_pos q]
        exact ex_setD 4 hN (ev_max2 rfl W.g.max (ev_nm 4) (ev_nm 8)) (ex_nil (ex_nil ⟨_, _, _, _, rfl⟩))
      · rw [if_neg (fun z => by
          rw [decide_eq_true z.1, decide_eq_true z.2] at q
          cases q)]
        exact ex_nil (ex_nil ⟨_, _, _, _, rfl⟩)
    · rintro es' ⟨z5, z6, z7, z8, rfl⟩
      rw [List.take_length]
      exact ex_ret (Ev.imp (ev_nm 4) fun d z => by rw [← z]; exact hS)
end
end DL
end
section
set_option Elab.async false
set_option linter.all false
set_option autoImplicit false
set_option maxRecDepth 100000
set_option maxHeartbeats 2000000
/-! The law's own defs: flat, up. -/
namespace DL
open PySem PySem.Spec L2
open PyProof.Rows hiding St
open MA
section
variable {T : Addr → Prop} {P : Program} {w : World} {K : PySem.W.Frag} {mg : Str → Option Value} {base : Heap}
open LHead
theorem shps_mapX {α : Type} {n : Nat} {f : α → D} (h : ∀ x, shp n (f x) = true) : ∀ l : List α, shps n (l.map f) = true
  | [] => rfl
  | x :: l => by
    rw [List.map_cons, shps, shps_mapX h l, h x] <;> rfl
theorem eqv_nil {α : Type} {f : α → D} {l : List α} (h : ∀ x, noB (f x) = true) : PyData.eqv (.list (l.map f)) (.list []) = l.isEmpty := by
  cases l with
  | nil => rfl
  | cons x l => rfl
def spFlat : SpP := fun as S => ∃ (ws : List (List Int)), as = [.dat (wD ws)] ∧ ws.flatten.length ≤ 1000 ∧ S (.list (ws.flatten.map .int))
theorem fn_flat (W : Wd T K mg base) : Fn T P w K mg base 1 "_law_flat" spFlat [] := by
  have hN : (["_law_plan", "_law_found", "_law_ticks"] : List Str).Nodup := by decide +kernel
  obtain ⟨fd, hm, F⟩ := (W.dv 48 _ rfl).ex
  refine Fn.make (N := ["_law_plan", "_law_found", "_law_ticks"]) (ps := ["_law_plan"]) F hm ⟨rfl, rfl, rfl, by decide +kernel, rfl, by decide +kernel, by decide +kernel⟩ ?_ (fun _ _ _ _ _ _ us hl => match us, hl with | [_], _ => rfl) ?_
  · rintro as S ⟨ws, rfl, _⟩
    exact ⟨rfl, by simp [Ent.isOwn]⟩
  · rintro cdv A outer s H E hr as S ⟨ws, rfl, hl, hS⟩
    refine ex_setD 1 hN (ev_lst evs_nil) ?_
    refine ex_forD [2] (enc := dI) (L := ws) (fun i es => ∃ z2 : Ent, es = [.dat (wD ws), .dat (.list ((ws.take i).flatten.map .int)), z2]) .never rfl (wk_tup (ev_nm 0)) ⟨_, rfl⟩ ?_ ?_
    · rintro i b es' hi ⟨z2, rfl⟩
      have hlen : (ws.take i).flatten.length + b.length ≤ 1000 := by
        have h1 : (ws.take (i + 1)).flatten.length ≤ ws.flatten.length := by
          have := congrArg List.length (congrArg List.flatten (List.take_append_drop (i + 1) ws))
          rw [List.flatten_append, List.length_append] at this
          omega
        rw [take_snoc hi, List.flatten_append, List.length_append, List.flatten_singleton] at h1
        omega
      refine ⟨_, bd_nm 2 hN, ?_⟩
      refine ex_setD 1 hN (ev_catL (Ev.r (ev_nm 1)) (Ev.r (ev_listT W.g.list (Ev.r (ev_nm 2)))) (by rw [List.length_map, List.length_map]; exact sz (by omega))) (ex_nil ⟨.dat (dI b), ?_⟩)
      rw [take_snoc hi, List.flatten_append, List.map_append, List.flatten_singleton]
      rfl
    · rintro es' ⟨z2, rfl⟩
      rw [List.take_length]
      exact ex_ret (Ev.imp (ev_nm 1) fun d z => by rw [← z]; exact hS)
/-- nothing of a above b -/
def upB (a b : List (List Int)) : Bool := ((a.flatten.zip b.flatten).filter fun q => decide (q.2 < q.1)).isEmpty
def spUp : SpP := fun as S => ∃ (a b : List (List Int)), as = [.dat (wD a), .dat (wD b)] ∧ a.flatten.length ≤ 1000 ∧ b.flatten.length ≤ 1000 ∧ S (.bool (upB a b))
theorem fn_up (W : Wd T K mg base) : Fn T P w K mg base 2 "_law_up" spUp [] := by
  have hN : (["_law_one", "_law_other", "_law_x", "_law_y"] : List Str).Nodup := by decide +kernel
  obtain ⟨fd, hm, F⟩ := (W.dv 49 _ rfl).ex
  refine Fn.make (N := ["_law_one", "_law_other", "_law_x", "_law_y"]) (ps := ["_law_one", "_law_other"]) F hm ⟨rfl, rfl, rfl, by decide +kernel, rfl, by decide +kernel, by decide +kernel⟩ ?_ (fun _ _ _ _ _ _ us hl => match us, hl with | [_, _], _ => rfl) ?_
  · rintro as S ⟨a, b, rfl, _⟩
    exact ⟨rfl, by simp [Ent.isOwn]⟩
  · rintro cdv A outer s H E hr as S ⟨a, b, rfl, ha, hb, hS⟩
    refine ex_ret (Ev.imp (Cv.evb (cv_eqD (dx := .list (((a.flatten.zip b.flatten).filter fun q => decide (q.2 < q.1)).map fun _ => .int 1)) (dy := .list []) (n := 1) hr (Ev.r (ev_lc (own := [("_law_x", 2), ("_law_y", 3)]) (L := a.flatten.zip b.flatten) (enc := fun q => .tuple [.int q.1, .int q.2]) (c := fun q => decide (q.2 < q.1)) (f := fun _ => .int 1) rfl hN (blkOk_by (by kernel_rfl)) (by
      rw [← zipD2_map]
      exact wk_zip2 true true W.g.zip (ev_callD (fn_flat W) (hr.mono (by decide)) (ar_cons (ev_nm 0) ar_nil) ⟨a, rfl, ha, rfl⟩) (ev_callD (fn_flat W) (hr.mono (by decide)) (ar_cons (ev_nm 1) ar_nil) ⟨b, rfl, hb, rfl⟩)) (sz (by rw [List.length_zip]; omega)) (fun q hq => ⟨[.dat (wD a), .dat (wD b), .dat (.int q.1), .dat (.int q.2)], fun s H c' cl fp => ⟨bd_tup rfl (Bds.cons rfl (bd_nm 2 hN) (Bds.cons rfl (bd_nm 3 hN) .nil)), tvs_one (Cv.tvb (cv_gt (ev_nm 2) (ev_nm 3)) rfl), fun _ => ev_int⟩⟩))) (Ev.r (ev_lst evs_nil)) ?_ rfl) rfl) fun d z => ?_)
    · rw [shp]
      exact shps_mapX (fun _ => rfl) _
    · rw [← z, eqv_nil fun _ => rfl]
      exact hS
end
end DL
end
section
set_option Elab.async false
set_option linter.all false
set_option autoImplicit false
set_option maxRecDepth 100000
set_option maxHeartbeats 2000000
/-! The law's own defs: does it go. -/
namespace MA
def sideF (st g : List Int) : List Int := (st.zip g).map fun q => if q.1 ≤ q.2 then 1 else -1
def heldF (st sd : List Int) (ws : List (List Int)) (now : Int) : List Int := (st.zip (sd.zip ws)).map fun q => q.1 + q.2.1 * ((q.2.2.filter fun x => decide (x ≤ now)).length : Int)
def okAt1 (c : Clk) (h : List Int) (now : Int) (tc : Int × Int × Int) : Prop := tc.1 = now % c.p → leastN c tc.2.1 (gI h tc.2.1) tc.2.2 ≤ gI h tc.2.2 ∧ leastN c tc.2.2 (gI h tc.2.2) tc.2.1 ≤ gI h tc.2.1
def okAt (c : Clk) (h : List Int) (now : Int) : Prop := ∀ tc ∈ c.tch, okAt1 c h now tc
def lastF (t : Int) (ws : List (List Int)) : Int := maxI (t :: ws.flatten)
structure GoesP (c : Clk) (t : Int) (st g : List Int) (ws : List (List Int)) : Prop where
  lens : ∀ q ∈ st.zip (g.zip ws), max (q.1 - q.2.1) (q.2.1 - q.1) = (q.2.2.length : Int)
  gap : ∀ q ∈ ws.zipIdx, ∀ x ∈ q.1, t ≤ x ∧ inGap c (q.2 : Int) x = true
  up : ∀ q ∈ ws.zipIdx, q.1.Pairwise (· < ·)
  touch : ∀ now ∈ rngI t (lastF t ws + c.p + 1), okAt c (heldF st (sideF st g) ws now) now
structure WaysOk (c : Clk) (t : Int) (st g : List Int) (ws : List (List Int)) : Prop where
  lst : st.length = c.eds.length
  lg : g.length = c.eds.length
  lws : ws.length = c.eds.length
  few : ∀ x ∈ ws, x.length ≤ 50
  t0 : 0 ≤ t
  t1 : t ≤ 1000
  big : ∀ x ∈ ws.flatten, x ≤ 1000
theorem flat_len {ws : List (List Int)} {n k : Nat} (hl : ws.length ≤ n) (h : ∀ x ∈ ws, x.length ≤ k) : ws.flatten.length ≤ n * k := by
  induction ws generalizing n with
  | nil => simp
  | cons x ws ih =>
    cases n with
    | zero => simp at hl
    | succ n =>
      rw [List.flatten_cons, List.length_append, Nat.succ_mul]
      have h1 := h x List.mem_cons_self
      have h2 := ih (n := n) (by simpa using hl) fun y hy => h y (List.mem_cons_of_mem _ hy)
      omega
end MA
namespace DL
open PySem PySem.Spec L2
open PyProof.Rows hiding St
open MA
section
variable {T : Addr → Prop} {P : Program} {w : World} {K : PySem.W.Frag} {mg : Str → Option Value} {base : Heap}
open LHead
def spGoes : SpP := fun as S => ∃ (c : Clk) (t : Int) (st g : List Int) (ws : List (List Int)), as = [.dat (dC c), .dat (.int t), .dat (dI st), .dat (dI g), .dat (wD ws)] ∧ c.Fit ∧ WaysOk c t st g ws ∧ (GoesP c t st g ws → S (.bool true)) ∧ (¬ GoesP c t st g ws → S (.bool false))
theorem zipD3_map {α β γ : Type} {f : α → D} {g : β → D} {h : γ → D} {l : List α} {m : List β} {k : List γ} : zipD3 (l.map f) (m.map g) (k.map h) = (l.zip (m.zip k)).map fun q => .tuple [f q.1, g q.2.1, h q.2.2] := by
  unfold zipD3
  rw [List.zip_map, List.zip_map, List.map_map]
  rfl
theorem noB_ints (l : List Int) : noB (.list (l.map .int)) = true := by
  rw [noB]
  exact noBs_mapI l
theorem int_map_inj {a b : List Int} (h : a.map PyData.int = b.map PyData.int) : a = b := by
  induction a generalizing b with
  | nil => cases b with
    | nil => rfl
    | cons => cases h
  | cons x a ih => cases b with
    | nil => cases h
    | cons y b =>
      rw [List.map_cons, List.map_cons] at h
      injection h with h1 h2
      injection h1 with h1
      rw [h1, ih h2]
theorem eqv_ints (a b : List Int) : PyData.eqv (.list (a.map .int)) (.list (b.map .int)) = decide (a = b) := by
  refine eqv_dec (noB_ints a) (noB_ints b) ?_
  rw [decide_eq_true_iff]
  constructor
  · intro h
    rw [h]
  · intro h
    injection h with h
    exact int_map_inj h
theorem fn_goes (W : Wd T K mg base) : Fn T P w K mg base 2 "_law_goes" spGoes [] := by
  have hN : (["_law_clock_here", "_law_tick", "_law_standing", "_law_goal", "_law_ways_here", "_law_last", "_law_start", "_law_sides", "_law_ticks", "_law_wheel", "_law_now", "_law_held", "_law_side", "_law_phase", "_law_one", "_law_other", "_law_end", "_law_own"] : List Str).Nodup := by decide +kernel
  obtain ⟨fd, hm, F⟩ := (W.dv 50 _ rfl).ex
  refine Fn.make (N := ["_law_clock_here", "_law_tick", "_law_standing", "_law_goal", "_law_ways_here", "_law_last", "_law_start", "_law_sides", "_law_ticks", "_law_wheel", "_law_now", "_law_held", "_law_side", "_law_phase", "_law_one", "_law_other", "_law_end", "_law_own"]) (ps := ["_law_clock_here", "_law_tick", "_law_standing", "_law_goal", "_law_ways_here"]) F hm ⟨rfl, rfl, rfl, by decide +kernel, rfl, by decide +kernel, by decide +kernel⟩ ?_ (fun _ _ _ _ _ _ us hl => match us, hl with | [_, _, _, _, _], _ => rfl) ?_
  · rintro as S ⟨c, t, st, g, ws, rfl, _⟩
    exact ⟨rfl, by simp [Ent.isOwn]⟩
  · rintro cdv A outer s H E hr as S ⟨c, t, st, g, ws, rfl, fit, ok, hS1, hS0⟩
    have h12 := fit.ok.eds.few
    have hp : 0 < c.p := by have := fit.ok.p1; omega
    have hp12 := fit.ok.p2
    have ls := ok.lst
    have lg := ok.lg
    have lw := ok.lws
    have t0 := ok.t0
    have t1 := ok.t1
    have lf : ws.flatten.length ≤ 12 * 50 := flat_len (by omega) ok.few
    have hlast : lastF t ws ≤ 1000 := maxI_le.mpr ⟨t1, ok.big⟩
    have hlast0 : t ≤ lastF t ws := le_maxI List.mem_cons_self
    -- last
    refine ex_setD 5 (d := .int (lastF t ws)) hN (Ev.imp (ev_maxL (ns := t :: ws.flatten) rfl W.g.max (Ev.r (Ev.imp (ev_catL (ds := [.int t]) (fs := ws.flatten.map .int) (Ev.r (ev_lst (evs_cons (ev_nm 1) evs_nil))) (Ev.r (ev_callD (fn_flat W) (hr.mono (by decide)) (ar_cons (ev_nm 4) ar_nil) ⟨ws, rfl, by omega, rfl⟩)) (by rw [List.length_map]; exact sz (by show 1 + _ ≤ _; omega))) fun d e => by rw [← e]; rfl)) (List.cons_ne_nil _ _)) fun d e => by rw [← e, maxL_I]; rfl) ?_
    -- sides
    refine ex_setLcD 7 (own := [("_law_start", 6), ("_law_end", 16)]) (L := st.zip g) (enc := fun q => .tuple [.int q.1, .int q.2]) (cf := fun _ => true) (f := fun q => .int (if q.1 ≤ q.2 then 1 else -1)) hN rfl (blkOk_by (by kernel_rfl)) (by rw [← zipD2_map]; exact wk_zip2 false false W.g.zip (ev_nm 2) (ev_nm 3)) (sz (by rw [List.length_zip]; omega)) (fun q hq => ⟨[.dat (dC c), .dat (.int t), .dat (dI st), .dat (dI g), .dat (wD ws), .dat (.int (lastF t ws)), .dat (.int q.1), .unk, .unk, .unk, .unk, .unk, .unk, .unk, .unk, .unk, .dat (.int q.2), .unk], fun s H c' cl fp => ⟨bd_tup rfl (Bds.cons rfl (bd_nm 6 hN) (Bds.cons rfl (bd_nm 16 hN) .nil)), tvs_nil, fun _ => ?_⟩⟩) ?_
    · refine ev_ifE (A := Eq (decide (q.1 ≤ q.2))) ?_ (fun h => ?_) (fun h => ?_)
      · exact Cv.tvb (cv_ge (ev_nm 16) (ev_nm 6)) rfl
      · exact Ev.imp ev_int fun d e => by rw [← e, if_pos (of_decide_eq_true h)]
      · exact Ev.imp (ev_neg ev_int) fun d e => by rw [← e, if_neg (of_decide_eq_false h)]
    rw [ft]
    have hsd : (st.zip g).map (fun q => PyData.int (if q.1 ≤ q.2 then 1 else -1)) = (sideF st g).map .int := by
      unfold sideF
      rw [List.map_map]
      rfl
    rw [hsd]
    -- lens
    refine ex_if (A := Eq (!((st.zip (g.zip ws)).filter fun q => !decide (max (q.1 - q.2.1) (q.2.1 - q.1) = (q.2.2.length : Int))).isEmpty)) ?_ (fun q => ?_) (fun q => ?_)
    · refine Tv.imp (Cv.tvb (cv_neD (dx := .list (((st.zip (g.zip ws)).filter fun q => !decide (max (q.1 - q.2.1) (q.2.1 - q.1) = (q.2.2.length : Int))).map fun _ => .int 1)) (dy := .list []) (n := 1) hr (Ev.r (ev_lc (own := [("_law_start", 6), ("_law_end", 16), ("_law_ticks", 8)]) (L := st.zip (g.zip ws)) (enc := fun q => .tuple [.int q.1, .int q.2.1, dI q.2.2]) (c := fun q => !decide (max (q.1 - q.2.1) (q.2.1 - q.1) = (q.2.2.length : Int))) (f := fun _ => .int 1) rfl hN (blkOk_by (by kernel_rfl)) (by
        rw [← zipD3_map]
        exact wk_zip3 false false false W.g.zip (ev_nm 2) (ev_nm 3) (ev_nm 4)) (sz (by rw [List.length_zip]; omega)) (fun q hq => ⟨[.dat (dC c), .dat (.int t), .dat (dI st), .dat (dI g), .dat (wD ws), .dat (.int (lastF t ws)), .dat (.int q.1), .dat (.list ((sideF st g).map .int)), .dat (dI q.2.2), .unk, .unk, .unk, .unk, .unk, .unk, .unk, .dat (.int q.2.1), .unk], fun s H c' cl fp => ⟨bd_tup rfl (Bds.cons rfl (bd_nm 6 hN) (Bds.cons rfl (bd_nm 16 hN) (Bds.cons rfl (bd_nm 8 hN) .nil))), tvs_one ?_, fun _ => ev_int⟩⟩))) (Ev.r (ev_lst evs_nil)) ?_ rfl) rfl) fun z e => ?_
      · rw [show (q.2.2.length : Int) = ((q.2.2.map PyData.int).length : Int) by rw [List.length_map]]
        exact Cv.tvb (cv_ne (ev_max2 rfl W.g.max (ev_sub (ev_nm 6) (ev_nm 16)) (ev_sub (ev_nm 16) (ev_nm 6))) (ev_lenT (ds := q.2.2.map .int) W.g.len (ev_nm 8).r)) rfl
      · rw [shp]
        exact shps_mapX (fun _ => rfl) _
      · rw [← e, eqv_nil fun _ => rfl]
    · refine ex_ret (Ev.imp ev_bl fun d e => ?_)
      rw [← e]
      refine hS0 fun G => ?_
      rw [List.filter_eq_nil_iff.mpr fun q hq => by rw [decide_eq_true (G.lens q hq)]; decide] at q
      cases q
    have hlens : ∀ q ∈ st.zip (g.zip ws), max (q.1 - q.2.1) (q.2.1 - q.1) = (q.2.2.length : Int) := fun x hx => by
      rw [Bool.not_eq_false', List.isEmpty_iff] at q
      have := List.filter_eq_nil_iff.mp q x hx
      by_cases h : max (x.1 - x.2.1) (x.2.1 - x.1) = (x.2.2.length : Int)
      · exact h
      · rw [decide_eq_false h] at this
        exact absurd rfl this
    refine ex_nil ?_
    -- ticks
    refine ex_forD [9, 8] (L := ws.zipIdx) (enc := fun q => .tuple [.int (q.2 : Int), dI q.1]) (fun i es => (∀ q ∈ ws.zipIdx.take i, (∀ x ∈ q.1, t ≤ x ∧ inGap c (q.2 : Int) x = true) ∧ q.1.Pairwise (· < ·)) ∧ ∃ z8 z9 : Ent, es = [.dat (dC c), .dat (.int t), .dat (dI st), .dat (dI g), .dat (wD ws), .dat (.int (lastF t ws)), .unk, .dat (.list ((sideF st g).map .int)), z8, z9, .unk, .unk, .unk, .unk, .unk, .unk, .unk, .unk]) .never rfl (by rw [← enumD_map]; exact wk_enum false W.g.enum (ev_nm 4)) ⟨fun q hq => (nomatch hq), _, _, rfl⟩ ?_ ?_
    · rintro i ⟨ticks, j⟩ es' hi ⟨hprev, z8, z9, rfl⟩
      have hj' := List.mem_zipIdx_iff_getElem?.mp (List.mem_of_getElem? hi)
      have hj : ws[j]? = some ticks := hj'
      obtain ⟨hj1, _⟩ := List.getElem?_eq_some_iff.mp hj
      have hmem := List.mem_of_getElem? hi
      have hfew := ok.few ticks (List.mem_of_getElem? hj)
      refine ⟨_, bd_tup rfl (Bds.cons rfl (bd_nm 9 hN) (Bds.cons rfl (bd_nm 8 hN) .nil)), ?_⟩
      refine ex_if (A := Eq (!(ticks.filter fun x => decide (x < t) || !inGap c (j : Int) x).isEmpty)) ?_ (fun q => ?_) (fun q => ?_)
      · refine Tv.imp (Cv.tvb (cv_neD (dx := .list ((ticks.filter fun x => decide (x < t) || !inGap c (j : Int) x).map .int)) (dy := .list []) (n := 1) hr (Ev.r (ev_lc (own := [("_law_own", 17)]) (L := ticks) (enc := .int) (c := fun x => decide (x < t) || !inGap c (j : Int) x) (f := .int) rfl hN (blkOk_by (by kernel_rfl)) (wk_tup (ev_nm 8)) (sz (by omega)) (fun x hx => ⟨[.dat (dC c), .dat (.int t), .dat (dI st), .dat (dI g), .dat (wD ws), .dat (.int (lastF t ws)), .unk, .dat (.list ((sideF st g).map .int)), .dat (dI ticks), .dat (.int (j : Int)), .unk, .unk, .unk, .unk, .unk, .unk, .unk, .dat (.int x)], fun s H c' cl fp => ⟨bd_nm 17 hN, tvs_one ?_, fun _ => ev_nm 17⟩⟩))) (Ev.r (ev_lst evs_nil)) ?_ rfl) rfl) fun z e => ?_
        · exact Wv.tv (wv_or (Cv.tvb (cv_lt (ev_nm 17) (ev_nm 1)) rfl) fun _ => wv_or1 (Cv.tvb (cv_niI false (ev_mod hp (ev_nm 17) (ev_ixT (ev_nm 0).r ev_int rfl)) (Ev.r (ev_ixT (ev_ixT (ev_nm 0).r ev_int rfl).r (ev_nm 9) (atGap fit.ok (by omega) (by omega))))) rfl))
        · rw [shp]
          exact shps_mapX (fun _ => rfl) _
        · rw [← e, eqv_nil fun _ => rfl]
      · refine ex_ret (Ev.imp ev_bl fun d e => ?_)
        rw [← e]
        refine hS0 fun G => ?_
        rw [List.filter_eq_nil_iff.mpr fun x hx => by
          obtain ⟨g1, g2⟩ := G.gap _ hmem x hx
          rw [show inGap c (j : Int) x = true from g2, decide_eq_false (by omega)]
          decide] at q
        cases q
      have hgap : ∀ x ∈ ticks, t ≤ x ∧ inGap c (j : Int) x = true := fun x hx => by
        rw [Bool.not_eq_false', List.isEmpty_iff] at q
        have := List.filter_eq_nil_iff.mp q x hx
        rw [Bool.or_eq_true, not_or, decide_eq_true_iff, Bool.not_eq_true', Bool.not_eq_false] at this
        exact ⟨by omega, this.2⟩
      refine ex_nil (ex_if (A := Eq (!decide (uniq ticks = ticks))) ?_ (fun q => ?_) (fun q => ?_))
      · refine Tv.imp (Cv.tvb (cv_neD (dx := .list ((uniq ticks).map .int)) (dy := .list (ticks.map .int)) (n := 1) hr (Ev.r (ev_srtSet rfl W.g.sorted W.g.set (ev_nm 8) (by omega))) (Ev.r (ev_listT W.g.list (Ev.r (ev_nm 8)))) ?_ ?_) rfl) fun z e => by rw [← e, eqv_ints]
        · rw [shp]
          exact shps_mapX (fun _ => rfl) _
        · rw [shp]
          exact shps_mapX (fun _ => rfl) _
      · refine ex_ret (Ev.imp ev_bl fun d e => ?_)
        rw [← e]
        refine hS0 fun G => ?_
        rw [decide_eq_true (uniq_iff.mpr (G.up _ hmem))] at q
        cases q
      · rw [Bool.not_eq_false', decide_eq_true_iff] at q
        refine ex_nil (ex_nil ⟨fun x hx => ?_, .dat (dI ticks), .dat (.int (j : Int)), rfl⟩)
        rw [take_snoc hi] at hx
        rcases List.mem_append.mp hx with z | z
        · exact hprev x z
        · rw [List.mem_singleton.mp z]
          exact ⟨hgap, uniq_iff.mp q⟩
    rintro es' ⟨hticks, z8, z9, rfl⟩
    rw [List.take_length] at hticks
    have hsl : (sideF st g).length = c.eds.length := by
      unfold sideF
      rw [List.length_map, List.length_zip]
      omega
    have hs1 : ∀ x ∈ sideF st g, x = 1 ∨ x = -1 := fun x hx => by
      unfold sideF at hx
      obtain ⟨q, _, rfl⟩ := List.mem_map.mp hx
      by_cases h : q.1 ≤ q.2
      · rw [if_pos h]
        exact .inl rfl
      · rw [if_neg h]
        exact .inr rfl
    have hhl : ∀ now, (heldF st (sideF st g) ws now).length = c.eds.length := fun now => by
      unfold heldF
      rw [List.length_map, List.length_zip, List.length_zip]
      omega
    generalize hsf : sideF st g = sd at hsl hs1 hhl ⊢
    refine ex_forD [10] (L := rngI t (lastF t ws + c.p + 1)) (enc := .int) (fun i es => (∀ now ∈ (rngI t (lastF t ws + c.p + 1)).take i, okAt c (heldF st sd ws now) now) ∧ ∃ z6 z8 z9 z10 z11 z12 z13 z14 z15 : Ent, es = [.dat (dC c), .dat (.int t), .dat (dI st), .dat (dI g), .dat (wD ws), .dat (.int (lastF t ws)), z6, .dat (.list (sd.map .int)), z8, z9, z10, z11, z12, z13, z14, z15, .unk, .unk]) .never rfl (by
      rw [← rngL_map]
      exact wk_rng2 W.g.range (ev_nm 1) (ev_add (ev_add (ev_nm 5) (ev_ixT (ev_nm 0).r ev_int rfl)) ev_int) (by omega)) ⟨fun q hq => (nomatch hq), _, _, _, _, _, _, _, _, _, rfl⟩ ?_ ?_
    · rintro i now es' hi ⟨hprev, z6, z8, z9, z10, z11, z12, z13, z14, z15, rfl⟩
      have hnow := List.mem_of_getElem? hi
      refine ⟨_, bd_nm 10 hN, ?_⟩
      refine ex_setN 11 (f := .lst []) hN evn_lst0 ?_
      refine ex_forD [6, 12, 8] (L := st.zip (sd.zip ws)) (enc := fun q => .tuple [.int q.1, .int q.2.1, dI q.2.2]) (fun k es => ∃ z6 z8 z12 : Ent, es = [.dat (dC c), .dat (.int t), .dat (dI st), .dat (dI g), .dat (wD ws), .dat (.int (lastF t ws)), z6, .dat (.list (sd.map .int)), z8, z9, .dat (.int now), .lst (((st.zip (sd.zip ws)).take k).map fun q => .int (q.1 + q.2.1 * ((q.2.2.filter fun x => decide (x ≤ now)).length : Int))), z12, z13, z14, z15, .unk, .unk]) .never rfl (by
        rw [← zipD3_map]
        exact wk_zip3 false true false W.g.zip (ev_nm 2) (ev_nm 7) (ev_nm 4)) ⟨_, _, _, rfl⟩ ?_ ?_
      · rintro k q es' hk ⟨z6, z8, z12, rfl⟩
        have hq := List.mem_of_getElem? hk
        have hq2 := (List.of_mem_zip hq).2
        have hside := hs1 q.2.1 (List.of_mem_zip hq2).1
        have hfew := ok.few q.2.2 (List.of_mem_zip hq2).2
        refine ⟨_, bd_tup rfl (Bds.cons rfl (bd_nm 6 hN) (Bds.cons rfl (bd_nm 12 hN) (Bds.cons rfl (bd_nm 8 hN) .nil))), ?_⟩
        refine ex_app 11 rfl rfl (.inl rfl) (d := .int (q.1 + q.2.1 * ((q.2.2.filter fun x => decide (x ≤ now)).length : Int))) ?_ (hl := ?_) (ex_nil ⟨.dat (.int q.1), .dat (dI q.2.2), .dat (.int q.2.1), ?_⟩)
        · rw [show ((q.2.2.filter fun x => decide (x ≤ now)).length : Int) = (((q.2.2.filter fun x => decide (x ≤ now)).map PyData.int).length : Int) by rw [List.length_map]]
          refine ev_add (ev_nm 6) (ev_mul (.inl ?_) (ev_nm 12) (ev_lenL (ds := (q.2.2.filter fun x => decide (x ≤ now)).map .int) W.g.len (Ev.r (ev_lc (own := [("_law_own", 17)]) (L := q.2.2) (enc := .int) (c := fun x => decide (x ≤ now)) (f := .int) rfl hN (blkOk_by (by kernel_rfl)) (wk_tup (ev_nm 8)) (sz (by omega)) (fun x hx => ⟨[.dat (dC c), .dat (.int t), .dat (dI st), .dat (dI g), .dat (wD ws), .dat (.int (lastF t ws)), .dat (.int q.1), .dat (.list (sd.map .int)), .dat (dI q.2.2), z9, .dat (.int now), .lst (((st.zip (sd.zip ws)).take k).map fun q => .int (q.1 + q.2.1 * ((q.2.2.filter fun x => decide (x ≤ now)).length : Int))), .dat (.int q.2.1), z13, z14, z15, .unk, .dat (.int x)], fun s H c' cl fp => ⟨bd_nm 17 hN, tvs_one (Cv.tvb (cv_le (ev_nm 17) (ev_nm 10)) rfl), fun _ => ev_nm 17⟩⟩)))))
          rcases hside with z | z <;> rw [z] <;> decide
        · rw [take_snoc hk, List.map_append]
          rfl
        · rw [List.length_map, List.length_take, List.length_zip]
          exact Nat.lt_of_le_of_lt (by omega : _ ≤ 12) (by decide)
      · rintro es' ⟨z6, z8, z12, rfl⟩
        rw [List.take_length]
        have hh : (st.zip (sd.zip ws)).map (fun q => PyData.int (q.1 + q.2.1 * ((q.2.2.filter fun x => decide (x ≤ now)).length : Int))) = (heldF st sd ws now).map .int := by
          unfold heldF
          rw [List.map_map]
          rfl
        rw [hh]
        have hhn := hhl now
        generalize hhd : heldF st sd ws now = hd at hhn ⊢
        refine ex_forD [13, 14, 15] (L := c.tch) (enc := dT3) (fun k es => (∀ tc ∈ c.tch.take k, okAt1 c hd now tc) ∧ ∃ z13 z14 z15 : Ent, es = [.dat (dC c), .dat (.int t), .dat (dI st), .dat (dI g), .dat (wD ws), .dat (.int (lastF t ws)), z6, .dat (.list (sd.map .int)), z8, z9, .dat (.int now), .lst (hd.map .int), z12, z13, z14, z15, .unk, .unk]) .never rfl (wk_tup (ev_ixT (ev_nm 0).r ev_int rfl)) ⟨fun q hq => (nomatch hq), _, _, _, rfl⟩ ?_ ?_
        · rintro k ⟨ph, a, b⟩ es' hk ⟨hpv, z13, z14, z15, rfl⟩
          have htm := List.mem_of_getElem? hk
          have htc := fit.ok.tch.num _ htm
          have ha0 : 0 ≤ a := htc.2.2.1
          have ha1 : a ≤ (c.eds.length : Int) - 1 := htc.2.2.2.1
          have hb0 : a + 1 ≤ b := htc.2.2.2.2.1
          have hb1 : b ≤ (c.eds.length : Int) - 1 := htc.2.2.2.2.2
          have hbadG : ¬ okAt1 c hd now (ph, a, b) → ¬ GoesP c t st g ws := fun h G => by
            have := G.touch now hnow (ph, a, b) htm
            rw [hsf, hhd] at this
            exact h this
          have hnext : okAt1 c hd now (ph, a, b) → ∀ tc ∈ c.tch.take (k + 1), okAt1 c hd now tc := fun h tc htc => by
            rw [take_snoc hk] at htc
            rcases List.mem_append.mp htc with z | z
            · exact hpv tc z
            · rw [List.mem_singleton.mp z]
              exact h
          refine ⟨_, bd_tup rfl (Bds.cons rfl (bd_nm 13 hN) (Bds.cons rfl (bd_nm 14 hN) (Bds.cons rfl (bd_nm 15 hN) .nil))), ?_⟩
          refine ex_if (A := Eq (decide (ph = now % c.p))) (Cv.tvb (cv_eq (ev_nm 13) (ev_mod hp (ev_nm 10) (ev_ixT (ev_nm 0).r ev_int rfl))) rfl) (fun q => ?_) (fun q => ?_)
          · have q' := of_decide_eq_true q
            refine ex_if (A := Eq (decide (gI hd b < leastN c a (gI hd a) b))) (Cv.tvb (cv_lt (ev_ixL (ds := hd.map .int) (evr_lst 11) (ev_nm 15) (atI_g (by omega) (by omega))) (ev_callD (fn_lneed W) (hr.mono (by decide)) (ar_cons (ev_nm 0) (ar_cons (ev_nm 14) (ar_cons (ev_ixL (ds := hd.map .int) (evr_lst 11) (ev_nm 14) (atI_g ha0 (by omega))) (ar_cons (ev_nm 15) ar_nil)))) ⟨c, a, gI hd a, b, rfl, rfl⟩)) rfl) (fun q1 => ?_) (fun q1 => ?_)
            · have q1' := of_decide_eq_true q1
              refine ex_ret (Ev.imp ev_bl fun d e => ?_)
              rw [← e]
              exact hS0 (hbadG fun h => by
                have h1 : leastN c a (gI hd a) b ≤ gI hd b := (h q').1
                omega)
            have q1' := of_decide_eq_false q1
            refine ex_nil (ex_if (A := Eq (decide (gI hd a < leastN c b (gI hd b) a))) (Cv.tvb (cv_lt (ev_ixL (ds := hd.map .int) (evr_lst 11) (ev_nm 14) (atI_g ha0 (by omega))) (ev_callD (fn_lneed W) (hr.mono (by decide)) (ar_cons (ev_nm 0) (ar_cons (ev_nm 15) (ar_cons (ev_ixL (ds := hd.map .int) (evr_lst 11) (ev_nm 15) (atI_g (by omega) (by omega))) (ar_cons (ev_nm 14) ar_nil)))) ⟨c, b, gI hd b, a, rfl, rfl⟩)) rfl) (fun q2 => ?_) (fun q2 => ?_))
            · have q2' := of_decide_eq_true q2
              refine ex_ret (Ev.imp ev_bl fun d e => ?_)
              rw [← e]
              exact hS0 (hbadG fun h => by
                have h1 : leastN c b (gI hd b) a ≤ gI hd a := (h q').2
                omega)
            have q2' := of_decide_eq_false q2
            exact ex_nil (ex_nil (ex_nil ⟨hnext fun _ => ⟨by show leastN c a (gI hd a) b ≤ gI hd b; omega, by show leastN c b (gI hd b) a ≤ gI hd a; omega⟩, _, _, _, rfl⟩))
          · have q' := of_decide_eq_false q
            exact ex_nil (ex_nil ⟨hnext fun h => absurd h q', _, _, _, rfl⟩)
        · rintro es' ⟨hok, z13, z14, z15, rfl⟩
          rw [List.take_length] at hok
          refine ex_nil ⟨fun x hx => ?_, _, _, _, _, _, _, _, _, _, rfl⟩
          rw [take_snoc hi] at hx
          rcases List.mem_append.mp hx with z | z
          · exact hprev x z
          · rw [List.mem_singleton.mp z, hhd]
            exact hok
    · rintro es' ⟨hall, z6, z8, z9, z10, z11, z12, z13, z14, z15, rfl⟩
      rw [List.take_length] at hall
      refine ex_ret (Ev.imp ev_bl fun d e => ?_)
      rw [← e]
      exact hS1 ⟨hlens, fun q hq => (hticks q hq).1, fun q hq => (hticks q hq).2, by rw [hsf]; exact hall⟩
end
end DL
end
section
set_option Elab.async false
set_option linter.all false
set_option autoImplicit false
set_option maxRecDepth 100000
set_option maxHeartbeats 2000000
/-! The law's own defs: the draws. -/
namespace DL
open PySem PySem.Spec L2
open PyProof.Rows hiding St
open MA
section
variable {T : Addr → Prop} {X : Cx} {es : List Ent} {a : Expr} {pos p1 : Pos}
theorem ev_intR {A : D → Prop} (hm : X.mg "int" = none) (ha : Ev T X es a A) (hA : ∀ d, A d → ∃ i, d = .int i) (hg : Gl X "int" := by rfl)
    (he : starEach [a] X.env = (false, eval a X.env) :: starEach [] X.env := by rfl) (hpl : (backTo pos (starEach [] X.env)).any (·.1) = false := by rfl) : Ev T X es (.Call (.Name "int" p1) [a] [] pos) A :=
  ev_cT1 call_int1 hm boot_int' ha.r (fun p H v d Q g r q k => by
    obtain ⟨i, rfl⟩ := hA d q
    have e := r.int_v
    subst e
    exact .inl ⟨i, rfl, k H _ _ (.refl H) (.int _) q⟩) hg (he := he) (hpl := hpl)
end
section
variable {T : Addr → Prop} {P : Program} {w : World} {K : PySem.W.Frag} {mg : Str → Option Value} {base : Heap}
open LHead
def Under (m : Int) (d : D) : Prop := ∃ k : Int, d = .int k ∧ 0 ≤ k ∧ k < m
theorem under_mod {i m : Int} (h : 1 ≤ m) : Under m (.int (i % m)) := ⟨_, rfl, Int.emod_nonneg _ (by omega), Int.emod_lt_of_pos _ (by omega)⟩
def spTaken : SpP := fun as S => ∃ (ns : List Int) (m : Int), as = [.row ns, .dat (.int m)] ∧ 1 ≤ m ∧ m ≤ 1000 ∧ ∀ d, Under m d → S d
theorem fn_taken (W : Wd T K mg base) : Fn T P w K mg base 1 "_law_taken" spTaken [] := by
  have hN : (["_law_row", "_law_many", "_law_found", "_law_cell"] : List Str).Nodup := by decide +kernel
  obtain ⟨fd, hm, F⟩ := (W.dv 43 _ rfl).ex
  refine Fn.make (N := ["_law_row", "_law_many", "_law_found", "_law_cell"]) (ps := ["_law_row", "_law_many"]) F hm ⟨rfl, rfl, rfl, by decide +kernel, rfl, by decide +kernel, by decide +kernel⟩ ?_ (fun _ _ _ _ _ _ us hl => match us, hl with | [_, _], _ => rfl) ?_
  · rintro as S ⟨ns, m, rfl, _⟩
    exact ⟨rfl, by simp [Ent.isOwn]⟩
  · rintro cdv A outer s H E hr as S ⟨ns, m, rfl, m1, m2, hS⟩
    have r3 : ∀ n : Int, RowR 3 n := fun n => ⟨fun z => by omega, fun z => by omega⟩
    refine ex_if (A := fun _ => True) (Cv.tv (cv_I op_gt (ev_row 0) ev_int fun x y q1 q2 => by
      obtain ⟨n, rfl, _⟩ := q1
      exact ⟨n, 0, rfl, q2.symm, _, rfl, trivial⟩) (nobehind _ (by decide) (by decide))) (fun _ => ?_) (fun _ => ?_)
    · refine ex_set 2 hN (S := Under m) (ev_opI op_mod (ev_intR W.g.int (ev_row 0) fun d q => ⟨q.choose, q.choose_spec.1⟩) (ev_nm 1) fun x y q1 q2 => by
        obtain ⟨n, rfl, _⟩ := q1
        exact ⟨n, m, rfl, q2.symm, by omega, under_mod m1⟩) fun d hd => ?_
      refine ex_row 0 (ev_opI op_fdiv (ev_row 0) (ev_nm 1) fun x y q1 q2 => by
        obtain ⟨n, rfl, _⟩ := q1
        exact ⟨n, m, rfl, q2.symm, ⟨by omega, by omega⟩, _, rfl, r3 _⟩) ?_
      exact ex_ret (Ev.imp (ev_nm 2) fun d' e => by rw [← e]; exact hS d hd)
    · refine ex_nil (ex_draw 0 3 ?_ (fun v => ?_) hN W.g.len)
      · refine ex_row 0 (ev_opI op_mod (ev_intR W.g.int (A := fun d => ∃ i, d = .int i) (ev_opI0 op_add (A := fun d => ∃ i, d = .int i) (ev_opI op_mul (ev_row 0) ev_int fun x y q1 q2 => by
          obtain ⟨n, rfl, _⟩ := q1
          exact ⟨n, 48271, rfl, q2.symm, .inr (by decide), _, rfl⟩) ev_int fun x y q1 q2 => by
          obtain ⟨n, rfl⟩ := q1
          exact ⟨n, 11, rfl, q2.symm, _, rfl⟩) fun d q => q) ev_int fun x y q1 q2 => by
          obtain ⟨n, rfl⟩ := q1
          exact ⟨n, 2147483647, rfl, q2.symm, by decide, _, rfl, fun z => by omega, fun _ => ⟨Int.emod_nonneg _ (by decide), Int.emod_lt_of_pos _ (by decide)⟩⟩) ?_
        exact ex_ret (ev_opI op_mod (ev_intR W.g.int (A := fun d => ∃ i, d = .int i) (ev_opI op_fdiv (ev_row 0) ev_int fun x y q1 q2 => by
          obtain ⟨n, rfl, _⟩ := q1
          exact ⟨n, 7, rfl, q2.symm, ⟨by decide, by decide⟩, _, rfl⟩) fun d q => q) (ev_nm 1) fun x y q1 q2 => by
          obtain ⟨n, rfl⟩ := q1
          exact ⟨n, m, rfl, q2.symm, by omega, hS _ (under_mod m1)⟩)
      · refine ex_row 0 (ev_opI op_mod (ev_intR W.g.int (A := fun d => ∃ i, d = .int i) (ev_opI0 op_add (A := fun d => ∃ i, d = .int i) (ev_opI0 op_add (A := fun d => ∃ i, d = .int i) (ev_opI op_mul (ev_row 0) ev_int fun x y q1 q2 => by
          obtain ⟨n, rfl, _⟩ := q1
          exact ⟨n, 48271, rfl, q2.symm, .inr (by decide), _, rfl⟩) (ev_nm 3) fun x y q1 q2 => by
          obtain ⟨n, rfl⟩ := q1
          exact ⟨n, v, rfl, q2.symm, _, rfl⟩) ev_int fun x y q1 q2 => by
          obtain ⟨n, rfl⟩ := q1
          exact ⟨n, 11, rfl, q2.symm, _, rfl⟩) fun d q => q) ev_int fun x y q1 q2 => by
          obtain ⟨n, rfl⟩ := q1
          exact ⟨n, 2147483647, rfl, q2.symm, by decide, _, rfl, fun z => by omega, fun _ => ⟨Int.emod_nonneg _ (by decide), Int.emod_lt_of_pos _ (by decide)⟩⟩) ?_
        refine ex_if (A := fun _ => True) (Cv.tv (cv_I op_ge (ev_nm 3) (ev_opI op_pow ev_int ev_int (S := Eq (.int (10 ^ 18))) fun x y q1 q2 => ⟨10, 18, q1.symm, q2.symm, ⟨by decide, by decide, by decide⟩, rfl⟩) fun x y q1 q2 => ⟨v, 10 ^ 18, q1.symm, q2.symm, _, rfl, trivial⟩) rfl) (fun _ => ?_) (fun _ => ?_)
        · exact ex_row 0 (ev_opI op_fdiv (ev_nm 3) (ev_nm 1) fun x y q1 q2 => ⟨v, m, q1.symm, q2.symm, ⟨by omega, by omega⟩, _, rfl, r3 _⟩) (ex_nil (ex_ret (ev_opI op_mod (ev_intI W.g.int (ev_nm 3)) (ev_nm 1) fun x y q1 q2 => ⟨v, m, q1.symm, q2.symm, by omega, hS _ (under_mod m1)⟩)))
        · exact ex_nil (ex_ret (ev_opI op_mod (ev_intI W.g.int (ev_nm 3)) (ev_nm 1) fun x y q1 q2 => ⟨v, m, q1.symm, q2.symm, by omega, hS _ (under_mod m1)⟩))
end
end DL
end
section
set_option Elab.async false
set_option linter.all false
set_option autoImplicit false
set_option maxRecDepth 100000
set_option maxHeartbeats 2000000
/-! The law's own defs: all ways. -/
namespace MA
def longer1 (tk one : List Int) : List (List Int) := (tk.filter fun x => decide (one = []) || decide (one.getLastD 0 < x)).map fun x => one ++ [x]
def longerF (tk : List Int) (rows : List (List Int)) : List (List Int) := (rows.map (longer1 tk)).flatten
def rowsF (tk : List Int) : Nat → List (List Int)
  | 0 => [[]]
  | k + 1 => longerF tk (rowsF tk k)
def more1 (rows : List (List Int)) (one : List (List Int)) : List (List (List Int)) := rows.map fun r => one ++ [r]
def moreF (found : List (List (List Int))) (rows : List (List Int)) : List (List (List Int)) := (found.map (more1 rows)).flatten
def tkF (c : Clk) (t m j : Int) : List Int := (rngI t (m + 1)).filter fun x => inGap c j x
def difN (q : Int × Int) : Nat := (max (q.1 - q.2) (q.2 - q.1)).toNat
def foundF (c : Clk) (t m : Int) (l : List ((Int × Int) × Nat)) : List (List (List Int)) := l.foldl (fun f q => moreF f (rowsF (tkF c t m (q.2 : Int)) (difN q.1))) [[]]
theorem flat_lenE {α β : Type} {f : α → List β} {l : List α} {k : Nat} (h : ∀ x ∈ l, (f x).length ≤ k) : ((l.map f).flatten).length ≤ l.length * k := by
  induction l with
  | nil => simp
  | cons x l ih =>
    rw [List.map_cons, List.flatten_cons, List.length_append, List.length_cons, Nat.succ_mul]
    have h1 := h x List.mem_cons_self
    have h2 := ih fun y hy => h y (List.mem_cons_of_mem _ hy)
    omega
theorem rows_len {tk : List Int} {n : Nat} (hn : tk.length ≤ n) : ∀ k, (rowsF tk k).length ≤ n ^ k
  | 0 => Nat.le_refl 1
  | k + 1 => by
    have h1 := rows_len hn k
    have h2 : ((rowsF tk k).map (longer1 tk)).flatten.length ≤ (rowsF tk k).length * n := flat_lenE fun x _ => by
      unfold longer1
      rw [List.length_map]
      exact Nat.le_trans (List.length_filter_le _ _) hn
    exact Nat.le_trans h2 (by rw [Nat.pow_succ]; exact Nat.mul_le_mul_right _ h1)
theorem rows_mem {tk : List Int} : ∀ k, ∀ r ∈ rowsF tk k, r.length = k ∧ ∀ x ∈ r, x ∈ tk
  | 0, r, h => by
    rw [show r = [] from List.mem_singleton.mp h]
    exact ⟨rfl, fun x h => nomatch h⟩
  | k + 1, r, h => by
    obtain ⟨l, hl, hr⟩ := List.mem_flatten.mp (show r ∈ ((rowsF tk k).map (longer1 tk)).flatten from h)
    obtain ⟨one, ho, rfl⟩ := List.mem_map.mp hl
    obtain ⟨x, hx, rfl⟩ := List.mem_map.mp hr
    obtain ⟨e, m⟩ := rows_mem k one ho
    refine ⟨by rw [List.length_append, e]; rfl, fun y hy => ?_⟩
    rcases List.mem_append.mp hy with z | z
    · exact m y z
    · rw [List.mem_singleton.mp z]
      exact (List.mem_filter.mp hx).1
theorem found_snoc {c : Clk} {t m : Int} {l : List ((Int × Int) × Nat)} {q : (Int × Int) × Nat} : foundF c t m (l ++ [q]) = moreF (foundF c t m l) (rowsF (tkF c t m (q.2 : Int)) (difN q.1)) := by
  unfold foundF
  rw [List.foldl_append]
  rfl
theorem more_len {f : List (List (List Int))} {r : List (List Int)} : (moreF f r).length ≤ f.length * r.length := flat_lenE fun x _ => by
  unfold more1
  rw [List.length_map]
  exact Nat.le_refl _
theorem found_len {c : Clk} {t m : Int} {n : Nat} (hn : (m + 1 - t).toNat ≤ n) (l : List ((Int × Int) × Nat)) : (foundF c t m l).length ≤ n ^ ((l.map fun q => difN q.1).sum) := by
  refine snocInd (P := fun l => (foundF c t m l).length ≤ n ^ ((l.map fun q => difN q.1).sum)) (Nat.le_refl 1) (fun l q ih => ?_) l
  rw [found_snoc, List.map_append, List.sum_append]
  refine Nat.le_trans more_len ?_
  have h2 := rows_len (tk := tkF c t m (q.2 : Int)) (n := n) (by
    unfold tkF
    refine Nat.le_trans (List.length_filter_le _ _) ?_
    rw [DL.rngI_len]
    exact hn) (difN q.1)
  rw [show ([q].map fun q => difN q.1).sum = difN q.1 by simp, Nat.pow_add]
  exact Nat.mul_le_mul ih h2
theorem found_mem {c : Clk} {t m : Int} (l : List ((Int × Int) × Nat)) : ∀ ws ∈ foundF c t m l, ws.length = l.length ∧ (∀ r ∈ ws, ∃ q ∈ l, r.length = difN q.1) ∧ ∀ x ∈ ws.flatten, t ≤ x ∧ x ≤ m := by
  refine snocInd (P := fun l => ∀ ws ∈ foundF c t m l, ws.length = l.length ∧ (∀ r ∈ ws, ∃ q ∈ l, r.length = difN q.1) ∧ ∀ x ∈ ws.flatten, t ≤ x ∧ x ≤ m) (fun ws h => ?_) (fun l q ih ws h => ?_) l
  · rw [show ws = [] from List.mem_singleton.mp h]
    exact ⟨rfl, (fun r h => nomatch h), fun x h => nomatch h⟩
  · rw [found_snoc] at h
    obtain ⟨l', hl, hr⟩ := List.mem_flatten.mp h
    obtain ⟨one, ho, rfl⟩ := List.mem_map.mp hl
    obtain ⟨r, hr', rfl⟩ := List.mem_map.mp hr
    obtain ⟨i1, i2, i3⟩ := ih one ho
    obtain ⟨r1, r2⟩ := rows_mem _ r hr'
    refine ⟨by rw [List.length_append, List.length_append, i1]; rfl, fun y hy => ?_, fun x hx => ?_⟩
    · rcases List.mem_append.mp hy with z | z
      · obtain ⟨q', h1, h2⟩ := i2 y z
        exact ⟨q', List.mem_append_left _ h1, h2⟩
      · rw [List.mem_singleton.mp z]
        exact ⟨q, List.mem_append_right _ (List.mem_singleton.mpr rfl), r1⟩
    · rw [List.flatten_append, List.flatten_singleton] at hx
      rcases List.mem_append.mp hx with z | z
      · exact i3 x z
      · have := r2 x z
        unfold tkF at this
        have := mem_rngI.mp (List.mem_filter.mp this).1
        omega
structure WaysIn (c : Clk) (t m : Int) (st g : List Int) (n : Nat) : Prop where
  lst : st.length = c.eds.length
  lg : g.length = c.eds.length
  t0 : 0 ≤ t
  t1 : t ≤ 1000
  m0 : 0 ≤ m
  m1 : m ≤ 1000
  n1 : 1 ≤ n
  hn : (m + 1 - t).toNat ≤ n
  n2 : n ≤ 1000
  tot : n ^ (((st.zip g).map difN).sum) ≤ 1000
  few : ∀ q ∈ st.zip g, difN q ≤ 50
theorem sum_take_le (l : List Nat) (i : Nat) : (l.take i).sum ≤ l.sum := by
  have := congrArg List.sum (List.take_append_drop i l)
  rw [List.sum_append] at this
  omega
theorem mem_sum_le {l : List Nat} {x : Nat} (h : x ∈ l) : x ≤ l.sum := by
  induction l with
  | nil => cases h
  | cons y l ih =>
    rw [List.sum_cons]
    rcases List.mem_cons.mp h with rfl | h
    · omega
    · have := ih h
      omega
theorem zipIdx_difs (l : List (Int × Int)) : (l.zipIdx.map fun q => difN q.1) = l.map difN := by
  rw [show (fun q : (Int × Int) × Nat => difN q.1) = difN ∘ Prod.fst from rfl, ← List.map_map, List.zipIdx_map_fst]
end MA
namespace DL
open PySem PySem.Spec L2
open PyProof.Rows hiding St
open MA
section
variable {T : Addr → Prop} {P : Program} {w : World} {K : PySem.W.Frag} {mg : Str → Option Value} {base : Heap}
open LHead
theorem enumZipD_map {l m : List Int} : enumZipD (l.map .int) (m.map .int) = (l.zip m).zipIdx.map fun q => .tuple [.int (q.2 : Int), .tuple [.int q.1.1, .int q.1.2]] := by
  unfold enumZipD
  rw [List.zip_map, List.zipIdx_map, List.map_map]
  rfl
def spWays : SpP := fun as S => ∃ (c : Clk) (t m : Int) (st g : List Int) (n : Nat), as = [.dat (dC c), .dat (.int t), .dat (dI st), .dat (dI g), .dat (.int m)] ∧ c.Fit ∧ WaysIn c t m st g n ∧ ∀ R : List (List (List Int)), R.length ≤ 1000 → (∀ ws ∈ R, GoesP c t st g ws ∧ WaysOk c t st g ws ∧ ∀ x ∈ ws.flatten, x ≤ m) → S (.list (R.map wD))
theorem eqv_tnil {l : List Int} : PyData.eqv (dI l) (.tuple []) = decide (l = []) := by
  cases l with
  | nil => rfl
  | cons x l => rfl
theorem sz2 {n : Nat} (h : n ≤ 2000000) : n ≤ sizeLine := Nat.le_trans h (by decide)
theorem last_at {l : List Int} (h : l ≠ []) : atI (l.map PyData.int) (-1) = some (.int (l.getLastD 0)) := by
  have hl : 0 < l.length := by
    cases l with
    | nil => exact absurd rfl h
    | cons => simp
  unfold atI ixN
  rw [if_neg (by omega), if_pos (by rw [List.length_map]; omega)]
  show (l.map PyData.int)[(-1 + ((l.map PyData.int).length : Int)).toNat]? = _
  rw [List.length_map, show (-1 + (l.length : Int)).toNat = l.length - 1 by omega, List.getElem?_map, ← List.getLast?_eq_getElem?, List.getLast?_eq_some_getLast h, List.getLastD_eq_getLast?, List.getLast?_eq_some_getLast h]
  rfl
theorem map_snoc {α β : Type} {f : α → β} {l : List α} {x : α} : (l ++ [x]).map f = l.map f ++ [f x] := by rw [List.map_append]; rfl
theorem fn_ways (W : Wd T K mg base) : Fn T P w K mg base 3 "_law_ways" spWays [] := by
  have hN : (["_law_clock_here", "_law_tick", "_law_standing", "_law_goal", "_law_most", "_law_found", "_law_wheel", "_law_start", "_law_end", "_law_ticks", "_law_rows", "_law_turn", "_law_longer", "_law_one", "_law_more", "_law_own", "_law_ways_here"] : List Str).Nodup := by decide +kernel
  obtain ⟨fd, hm, F⟩ := (W.dv 51 _ rfl).ex
  refine Fn.make (N := ["_law_clock_here", "_law_tick", "_law_standing", "_law_goal", "_law_most", "_law_found", "_law_wheel", "_law_start", "_law_end", "_law_ticks", "_law_rows", "_law_turn", "_law_longer", "_law_one", "_law_more", "_law_own", "_law_ways_here"]) (ps := ["_law_clock_here", "_law_tick", "_law_standing", "_law_goal", "_law_most"]) F hm ⟨rfl, rfl, rfl, by decide +kernel, rfl, by decide +kernel, by decide +kernel⟩ ?_ (fun _ _ _ _ _ _ us hl => match us, hl with | [_, _, _, _, _], _ => rfl) ?_
  · rintro as S ⟨c, t, m, st, g, n, rfl, _⟩
    exact ⟨rfl, by simp [Ent.isOwn]⟩
  · rintro cdv A outer s H E hr as S ⟨c, t, m, st, g, n, rfl, fit, ok, hS⟩
    have h12 := fit.ok.eds.few
    have hp : 0 < c.p := by have := fit.ok.p1; omega
    have hp12 := fit.ok.p2
    have ls := ok.lst
    have lg := ok.lg
    have t0 := ok.t0
    have t1 := ok.t1
    have m0 := ok.m0
    have m1 := ok.m1
    have n2 := ok.n2
    have hpow : ∀ k, k ≤ ((st.zip g).map difN).sum → n ^ k ≤ 1000 := fun k hk => Nat.le_trans (Nat.pow_le_pow_right ok.n1 hk) ok.tot
    refine ex_setD 5 (d := .list ((foundF c t m []).map wD)) hN (ev_lst (evs_cons (ev_tup evs_nil) evs_nil)) ?_
    refine ex_forD [6, 7, 8] (L := (st.zip g).zipIdx) (enc := fun q => .tuple [.int (q.2 : Int), .tuple [.int q.1.1, .int q.1.2]]) (fun i es => ∃ z6 z7 z8 z9 z10 z11 z12 z13 z14 : Ent, es = [.dat (dC c), .dat (.int t), .dat (dI st), .dat (dI g), .dat (.int m), .dat (.list ((foundF c t m ((st.zip g).zipIdx.take i)).map wD)), z6, z7, z8, z9, z10, z11, z12, z13, z14, .unk, .unk]) .never rfl (by
      rw [← enumZipD_map]
      exact wk_enumZip false false W.g.zip W.g.enum (ev_nm 2) (ev_nm 3)) ⟨_, _, _, _, _, _, _, _, _, rfl⟩ ?_ ?_
    · rintro i ⟨⟨a, b⟩, j⟩ es' hi ⟨z6, z7, z8, z9, z10, z11, z12, z13, z14, rfl⟩
      have hj' := List.mem_zipIdx_iff_getElem?.mp (List.mem_of_getElem? hi)
      have hj : (st.zip g)[j]? = some (a, b) := hj'
      have hmem := List.mem_of_getElem? hj
      have hjl : j < c.eds.length := by
        obtain ⟨h1, _⟩ := List.getElem?_eq_some_iff.mp hj
        rw [List.length_zip] at h1
        omega
      have hdif : difN (a, b) ≤ ((st.zip g).map difN).sum := mem_sum_le (List.mem_map.mpr ⟨_, hmem, rfl⟩)
      have hd50 := ok.few _ hmem
      have htl : (tkF c t m (j : Int)).length ≤ n := by
        unfold tkF
        refine Nat.le_trans (List.length_filter_le _ _) ?_
        rw [rngI_len]
        exact ok.hn
      have hmx : max (a - b) (b - a) = (difN (a, b) : Int) := by
        show _ = ((max (a - b) (b - a)).toNat : Int)
        have : 0 ≤ max (a - b) (b - a) := by omega
        omega
      refine ⟨_, bd_tup rfl (Bds.cons rfl (bd_nm 6 hN) (Bds.cons rfl (bd_tup rfl (Bds.cons rfl (bd_nm 7 hN) (Bds.cons rfl (bd_nm 8 hN) .nil))) .nil)), ?_⟩
      refine ex_par 9 10 (f := .dat (.list ((tkF c t m (j : Int)).map .int))) (f' := .dat (.list ((rowsF (tkF c t m (j : Int)) 0).map dI))) rfl hN (evn_d (Ev.imp (ev_lc (own := [("_law_own", 15)]) (L := rngI t (m + 1)) (enc := .int) (c := fun x => inGap c (j : Int) x) (f := .int) rfl hN (blkOk_by (by kernel_rfl)) (by
        rw [← rngL_map]
        exact wk_rng2 W.g.range (ev_nm 1) (ev_add (ev_nm 4) ev_int) (by omega)) (sz (by rw [rngI_len]; omega)) (fun x hx => ⟨[.dat (dC c), .dat (.int t), .dat (dI st), .dat (dI g), .dat (.int m), .dat (.list ((foundF c t m ((st.zip g).zipIdx.take i)).map wD)), .dat (.int (j : Int)), .dat (.int a), .dat (.int b), z9, z10, z11, z12, z13, z14, .dat (.int x), .unk], fun s H c' cl fp => ⟨bd_nm 15 hN, tvs_one (Cv.tvb (cv_inI false (ev_mod hp (ev_nm 15) (ev_ixT (ev_nm 0).r ev_int rfl)) (Ev.r (ev_ixT (ev_ixT (ev_nm 0).r ev_int rfl).r (ev_nm 6) (atGap fit.ok (by omega) (by omega))))) rfl), fun _ => ev_nm 15⟩⟩)) fun d e => e)) (evn_d (ev_lst (evs_cons (ev_tup evs_nil) evs_nil))) ?_
      refine ex_forD [11] (L := rngI 0 (difN (a, b) : Int)) (enc := .int) (fun k es => ∃ z11 z12 z13 : Ent, es = [.dat (dC c), .dat (.int t), .dat (dI st), .dat (dI g), .dat (.int m), .dat (.list ((foundF c t m ((st.zip g).zipIdx.take i)).map wD)), .dat (.int (j : Int)), .dat (.int a), .dat (.int b), .dat (.list ((tkF c t m (j : Int)).map .int)), .dat (.list ((rowsF (tkF c t m (j : Int)) k).map dI)), z11, z12, z13, z14, .unk, .unk]) .never rfl (by
        rw [← rngL0, ← hmx]
        exact wk_rng1 W.g.range (ev_max2 rfl W.g.max (ev_sub (ev_nm 7) (ev_nm 8)) (ev_sub (ev_nm 8) (ev_nm 7))) (by omega) (by omega)) ⟨_, _, _, rfl⟩ ?_ ?_
      · rintro k turn es' hk ⟨z11, z12, z13, rfl⟩
        have hkd : k + 1 ≤ difN (a, b) := by
          obtain ⟨h1, _⟩ := List.getElem?_eq_some_iff.mp hk
          rw [rngI_len] at h1
          omega
        have hrl := rows_len htl k
        have hp1 := hpow k (by omega)
        refine ⟨_, bd_nm 11 hN, ?_⟩
        refine ex_setD 12 (d := .list []) hN (ev_lst evs_nil) ?_
        refine ex_forD [13] (L := rowsF (tkF c t m (j : Int)) k) (enc := dI) (fun r es => ∃ z13 : Ent, es = [.dat (dC c), .dat (.int t), .dat (dI st), .dat (dI g), .dat (.int m), .dat (.list ((foundF c t m ((st.zip g).zipIdx.take i)).map wD)), .dat (.int (j : Int)), .dat (.int a), .dat (.int b), .dat (.list ((tkF c t m (j : Int)).map .int)), .dat (.list ((rowsF (tkF c t m (j : Int)) k).map dI)), .dat (.int turn), .dat (.list ((longerF (tkF c t m (j : Int)) ((rowsF (tkF c t m (j : Int)) k).take r)).map dI)), z13, z14, .unk, .unk]) .never rfl (wk_lst (ev_nm 10)) ⟨_, rfl⟩ ?_ ?_
        · rintro r one es' hone ⟨z13, rfl⟩
          have hl1 : (longerF (tkF c t m (j : Int)) ((rowsF (tkF c t m (j : Int)) k).take r)).length ≤ 1000 * 1000 := by
            refine Nat.le_trans (flat_lenE (k := 1000) fun x _ => ?_) (Nat.mul_le_mul_right _ ?_)
            · unfold longer1
              rw [List.length_map]
              exact Nat.le_trans (List.length_filter_le _ _) (by omega)
            · rw [List.length_take]
              omega
          have hl2 : (longer1 (tkF c t m (j : Int)) one).length ≤ 1000 := by
            unfold longer1
            rw [List.length_map]
            exact Nat.le_trans (List.length_filter_le _ _) (by omega)
          have hol : one.length ≤ 50 := by
            have := (rows_mem k one (List.mem_of_getElem? hone)).1
            omega
          refine ⟨_, bd_nm 13 hN, ?_⟩
          refine ex_setD 12 (d := .list ((longerF (tkF c t m (j : Int)) ((rowsF (tkF c t m (j : Int)) k).take (r + 1))).map dI)) hN (Ev.imp (ev_catL (ds := (longerF (tkF c t m (j : Int)) ((rowsF (tkF c t m (j : Int)) k).take r)).map dI) (fs := (longer1 (tkF c t m (j : Int)) one).map dI) (Ev.r (ev_nm 12)) (Ev.r (Ev.imp (ev_lc (own := [("_law_own", 15)]) (L := tkF c t m (j : Int)) (enc := .int) (c := fun x => decide (one = []) || decide (one.getLastD 0 < x)) (f := fun x => dI (one ++ [x])) rfl hN (blkOk_by (by kernel_rfl)) (wk_lst (ev_nm 9)) (sz (by omega)) (fun x hx => ⟨[.dat (dC c), .dat (.int t), .dat (dI st), .dat (dI g), .dat (.int m), .dat (.list ((foundF c t m ((st.zip g).zipIdx.take i)).map wD)), .dat (.int (j : Int)), .dat (.int a), .dat (.int b), .dat (.list ((tkF c t m (j : Int)).map .int)), .dat (.list ((rowsF (tkF c t m (j : Int)) k).map dI)), .dat (.int turn), .dat (.list ((longerF (tkF c t m (j : Int)) ((rowsF (tkF c t m (j : Int)) k).take r)).map dI)), .dat (dI one), z14, .dat (.int x), .unk], fun s H c' cl fp => ⟨bd_nm 15 hN, tvs_one ?_, fun _ => ?_⟩⟩)) fun d e => by rw [← e]; unfold longer1; rw [List.map_map]; rfl)) (by rw [List.length_map, List.length_map]; exact sz2 (by omega))) fun d e => ?_) ?_
          · refine Wv.tv (wv_or (x := decide (one = [])) (Tv.imp (Cv.tvb (cv_eqD (dx := dI one) (dy := .tuple []) (n := 1) hr (Ev.r (ev_nm 13)) (Ev.r (ev_tup evs_nil)) (by show shp 1 (.tuple (one.map .int)) = true; rw [shp]; exact shps_mapX (fun _ => rfl) _) rfl) rfl) fun z q => by rw [← q, eqv_tnil]) fun hne => ?_)
            have hne' : one ≠ [] := of_decide_eq_false hne
            exact wv_or1 (Cv.tvb (cv_gt (ev_nm 15) (ev_ixT (ds := one.map .int) (ev_nm 13).r (ev_neg ev_int) (last_at hne'))) rfl)
          · rw [show dI (one ++ [x]) = .tuple (one.map PyData.int ++ [.int x]) by unfold dI; rw [List.map_append]; rfl]
            exact ev_catT (ev_nm 13) (ev_tup (evs_cons (ev_nm 15) evs_nil)) (by rw [List.length_map]; exact sz (by show one.length + 1 ≤ 1000000; omega))
          · rw [← e, take_snoc hone]
            unfold longerF
            rw [map_snoc, List.flatten_append, List.flatten_singleton, List.map_append]
          · exact ex_nil ⟨_, rfl⟩
        · rintro es' ⟨z13, rfl⟩
          rw [List.take_length]
          exact ex_setD 10 hN (ev_nm 12) (ex_nil ⟨_, _, _, rfl⟩)
      · rintro es' ⟨z11, z12, z13, rfl⟩
        rw [show (rngI 0 (difN (a, b) : Int)).length = difN (a, b) by rw [rngI_len]; omega]
        have hfl : (foundF c t m ((st.zip g).zipIdx.take i)).length ≤ 1000 := by
          refine Nat.le_trans (found_len ok.hn _) (hpow _ ?_)
          rw [List.map_take, zipIdx_difs]
          exact sum_take_le _ _
        have hrl := rows_len htl (difN (a, b))
        have hrp := hpow _ hdif
        have hwl : ∀ ws ∈ foundF c t m ((st.zip g).zipIdx.take i), ws.length ≤ 12 := fun ws hws => by
          have := (found_mem _ ws hws).1
          rw [this, List.length_take, List.length_zipIdx, List.length_zip]
          omega
        refine ex_setD 14 (d := .list []) hN (ev_lst evs_nil) ?_
        refine ex_forD [13] (L := foundF c t m ((st.zip g).zipIdx.take i)) (enc := wD) (fun r es => ∃ z13 : Ent, es = [.dat (dC c), .dat (.int t), .dat (dI st), .dat (dI g), .dat (.int m), .dat (.list ((foundF c t m ((st.zip g).zipIdx.take i)).map wD)), .dat (.int (j : Int)), .dat (.int a), .dat (.int b), .dat (.list ((tkF c t m (j : Int)).map .int)), .dat (.list ((rowsF (tkF c t m (j : Int)) (difN (a, b))).map dI)), z11, z12, z13, .dat (.list ((moreF ((foundF c t m ((st.zip g).zipIdx.take i)).take r) (rowsF (tkF c t m (j : Int)) (difN (a, b)))).map wD)), .unk, .unk]) .never rfl (wk_lst (ev_nm 5)) ⟨_, rfl⟩ ?_ ?_
        · rintro r one es' hone ⟨z13, rfl⟩
          have hol := hwl one (List.mem_of_getElem? hone)
          have hl1 : (moreF ((foundF c t m ((st.zip g).zipIdx.take i)).take r) (rowsF (tkF c t m (j : Int)) (difN (a, b)))).length ≤ 1000 * 1000 := by
            refine Nat.le_trans more_len (Nat.mul_le_mul ?_ (by omega))
            rw [List.length_take]
            omega
          refine ⟨_, bd_nm 13 hN, ?_⟩
          refine ex_setD 14 (d := .list ((moreF ((foundF c t m ((st.zip g).zipIdx.take i)).take (r + 1)) (rowsF (tkF c t m (j : Int)) (difN (a, b)))).map wD)) hN (Ev.imp (ev_catL (ds := (moreF ((foundF c t m ((st.zip g).zipIdx.take i)).take r) (rowsF (tkF c t m (j : Int)) (difN (a, b)))).map wD) (fs := (more1 (rowsF (tkF c t m (j : Int)) (difN (a, b))) one).map wD) (Ev.r (ev_nm 14)) (Ev.r (Ev.imp (ev_lc (own := [("_law_ticks", 9)]) (L := rowsF (tkF c t m (j : Int)) (difN (a, b))) (enc := dI) (c := fun _ => true) (f := fun x => wD (one ++ [x])) rfl hN (blkOk_by (by kernel_rfl)) (wk_lst (ev_nm 10)) (sz (by omega)) (fun x hx => ⟨[.dat (dC c), .dat (.int t), .dat (dI st), .dat (dI g), .dat (.int m), .dat (.list ((foundF c t m ((st.zip g).zipIdx.take i)).map wD)), .dat (.int (j : Int)), .dat (.int a), .dat (.int b), .dat (dI x), .dat (.list ((rowsF (tkF c t m (j : Int)) (difN (a, b))).map dI)), z11, z12, .dat (wD one), .dat (.list ((moreF ((foundF c t m ((st.zip g).zipIdx.take i)).take r) (rowsF (tkF c t m (j : Int)) (difN (a, b)))).map wD)), .unk, .unk], fun s H c' cl fp => ⟨bd_nm 9 hN, tvs_nil, fun _ => ?_⟩⟩)) fun d e => by rw [← e, ft]; unfold more1; rw [List.map_map]; rfl)) (by rw [List.length_map, List.length_map]; exact sz2 (by unfold more1; rw [List.length_map]; omega))) fun d e => ?_) ?_
          · rw [show wD (one ++ [x]) = .tuple (one.map dI ++ [dI x]) by unfold wD; rw [List.map_append]; rfl]
            exact ev_catT (ev_nm 13) (ev_tup (evs_cons (ev_nm 9) evs_nil)) (by rw [List.length_map]; exact sz (by show one.length + 1 ≤ 1000000; omega))
          · rw [← e, take_snoc hone]
            unfold moreF
            rw [map_snoc, List.flatten_append, List.flatten_singleton, List.map_append]
          · exact ex_nil ⟨_, rfl⟩
        · rintro es' ⟨z13, rfl⟩
          rw [List.take_length]
          refine ex_setD 5 hN (ev_nm 14) (ex_nil ⟨.dat (.int (j : Int)), .dat (.int a), .dat (.int b), .dat (.list ((tkF c t m (j : Int)).map .int)), .dat (.list ((rowsF (tkF c t m (j : Int)) (difN (a, b))).map dI)), z11, z12, z13, .dat (.list ((moreF (foundF c t m ((st.zip g).zipIdx.take i)) (rowsF (tkF c t m (j : Int)) (difN (a, b)))).map wD)), ?_⟩)
          rw [take_snoc hi, found_snoc]
          rfl
    · rintro es' ⟨z6, z7, z8, z9, z10, z11, z12, z13, z14, rfl⟩
      rw [List.take_length]
      have hfl : (foundF c t m (st.zip g).zipIdx).length ≤ 1000 := by
        refine Nat.le_trans (found_len ok.hn _) (hpow _ ?_)
        rw [zipIdx_difs]
        exact Nat.le_refl _
      have hwo : ∀ ws ∈ foundF c t m (st.zip g).zipIdx, WaysOk c t st g ws ∧ ∀ x ∈ ws.flatten, x ≤ m := fun ws hws => by
        obtain ⟨h1, h2, h3⟩ := found_mem _ ws hws
        refine ⟨⟨ls, lg, ?_, fun r hr => ?_, t0, t1, fun x hx => ?_⟩, fun x hx => (h3 x hx).2⟩
        · rw [h1, List.length_zipIdx, List.length_zip]
          omega
        · obtain ⟨⟨q, k⟩, hq, e⟩ := h2 r hr
          rw [e]
          exact ok.few q (List.mem_of_getElem? (List.mem_zipIdx_iff_getElem?.mp hq))
        · have := h3 x hx
          omega
      have dec : ∀ ws, Decidable (GoesP c t st g ws) := fun _ => Classical.propDecidable _
      refine ex_ret (Ev.imp (ev_lc (own := [("_law_ways_here", 16)]) (L := foundF c t m (st.zip g).zipIdx) (enc := wD) (c := fun ws => @decide (GoesP c t st g ws) (dec ws)) (f := wD) rfl hN (blkOk_by (by kernel_rfl)) (wk_lst (ev_nm 5)) (sz (by omega)) (fun ws hws => ⟨[.dat (dC c), .dat (.int t), .dat (dI st), .dat (dI g), .dat (.int m), .dat (.list ((foundF c t m (st.zip g).zipIdx).map wD)), z6, z7, z8, z9, z10, z11, z12, z13, z14, .unk, .dat (wD ws)], fun s H c' cl fp => ⟨bd_nm 16 hN, tvs_one (tv_b (ev_callD (fn_goes W) (hr.mono (by decide)) (ar_cons (ev_nm 0) (ar_cons (ev_nm 1) (ar_cons (ev_nm 2) (ar_cons (ev_nm 3) (ar_cons (ev_nm 16) ar_nil))))) ⟨c, t, st, g, ws, rfl, fit, (hwo ws hws).1, fun h => by rw [@decide_eq_true _ (dec ws) h], fun h => by rw [@decide_eq_false _ (dec ws) h]⟩)), fun _ => ev_nm 16⟩⟩)) fun d e => ?_)
      rw [← e]
      refine hS _ (Nat.le_trans (List.length_filter_le _ _) hfl) fun ws hws => ?_
      obtain ⟨h1, h2⟩ := List.mem_filter.mp hws
      obtain ⟨h3, h4⟩ := hwo ws h1
      exact ⟨@of_decide_eq_true _ (dec ws) h2, h3, h4⟩
end
end DL
end
section
set_option Elab.async false
set_option linter.all false
set_option autoImplicit false
set_option maxRecDepth 100000
set_option maxHeartbeats 2000000
/-! The law's own defs: is it the best. -/
namespace MA
def manyF (st g : List Int) : Nat := ((st.zip g).map difN).sum
theorem many_sum (l : List (Int × Int)) : (l.map fun q => max (q.1 - q.2) (q.2 - q.1)).sum = ((l.map difN).sum : Int) := by
  induction l with
  | nil => rfl
  | cons q l ih =>
    rw [List.map_cons, List.sum_cons, ih, List.map_cons, List.sum_cons]
    have : max (q.1 - q.2) (q.2 - q.1) = (difN q : Int) := by
      show _ = ((max (q.1 - q.2) (q.2 - q.1)).toNat : Int)
      have : 0 ≤ max (q.1 - q.2) (q.2 - q.1) := by omega
      omega
    omega
def boundF (c : Clk) (t k : Int) : Int := if k < 3 then t + 2 * c.p * (k + 1) else t + 6
structure BestIn (c : Clk) (t : Int) (st g : List Int) : Prop where
  lst : st.length = c.eds.length
  lg : g.length = c.eds.length
  t0 : 0 ≤ t
  t1 : t ≤ 100
  p1 : 1 ≤ c.p
  p4 : c.p ≤ 4
  k3 : manyF st g ≤ 3
theorem ways_in {c : Clk} {t m : Int} {st g : List Int} (B : BestIn c t st g) (h0 : t ≤ m) (hm : m ≤ t + 2 * c.p * ((manyF st g : Int) + 1)) (h3 : manyF st g = 3 → m ≤ t + 9) : ∃ n, WaysIn c t m st g n := by
  have h1 := B.p4
  have h4 := B.k3
  have t0 := B.t0
  have t1 := B.t1
  have few : ∀ q ∈ st.zip g, difN q ≤ 50 := fun q hq => by
    have : difN q ≤ manyF st g := mem_sum_le (List.mem_map.mpr ⟨_, hq, rfl⟩)
    omega
  have fin : ∀ n : Nat, 1 ≤ n → n ≤ 1000 → (m + 1 - t).toNat ≤ n → n ^ manyF st g ≤ 1000 → m ≤ 1000 → ∃ n, WaysIn c t m st g n := fun n a b d e f => ⟨n, B.lst, B.lg, t0, by omega, by omega, f, a, d, b, e, few⟩
  have hk : manyF st g = 0 ∨ manyF st g = 1 ∨ manyF st g = 2 ∨ manyF st g = 3 := by omega
  rcases hk with k | k | k | k
  · rw [k] at hm
    exact fin 9 (by decide) (by decide) (by omega) (by rw [k]; decide) (by omega)
  · rw [k] at hm
    exact fin 17 (by decide) (by decide) (by omega) (by rw [k]; decide) (by omega)
  · rw [k] at hm
    exact fin 25 (by decide) (by decide) (by omega) (by rw [k]; decide) (by omega)
  · have := h3 k
    exact fin 10 (by decide) (by decide) (by omega) (by rw [k]; decide) (by omega)
end MA
namespace DL
open PySem PySem.Spec L2
open PyProof.Rows hiding St
open MA
section
variable {T : Addr → Prop} {P : Program} {w : World} {K : PySem.W.Frag} {mg : Str → Option Value} {base : Heap}
open LHead
def ToldOk (c : Clk) (t : Int) (st g : List Int) (told : D) : Prop :=
  (told = .none ∧ ∀ ws, WaysOk c t st g ws → GoesP c t st g ws → ¬ ∀ x ∈ ws.flatten, x ≤ boundF c t (manyF st g)) ∨
  (∃ w0, told = wD w0 ∧ WaysOk c t st g w0 ∧ GoesP c t st g w0 ∧ lastF t w0 ≤ t + 2 * c.p * ((manyF st g : Int) + 1) ∧ ∀ ws, WaysOk c t st g ws → GoesP c t st g ws → upB w0 ws = true)
def spBest : SpP := fun as S => ∃ (c : Clk) (t : Int) (st g : List Int) (told : D), as = [.dat (dC c), .dat (.int t), .dat (dI st), .dat (dI g), .dat told] ∧ c.Fit ∧ BestIn c t st g ∧ ToldOk c t st g told ∧ S (.bool true)
theorem shp_wDs (R : List (List (List Int))) : shp 3 (.list (R.map wD)) = true := by
  rw [shp]
  refine shps_mapX (fun ws => ?_) _
  show shp 2 (.tuple (ws.map dI)) = true
  rw [shp]
  refine shps_mapX (fun l => ?_) _
  show shp 1 (.tuple (l.map .int)) = true
  rw [shp]
  exact shps_mapX (fun _ => rfl) _
theorem eqv_nil' {l : List D} : PyData.eqv (.list l) (.list []) = l.isEmpty := by
  cases l with
  | nil => rfl
  | cons x l => rfl
theorem flat_ok {c : Clk} {t : Int} {st g : List Int} {ws : List (List Int)} (h12 : c.eds.length ≤ 12) (ok : WaysOk c t st g ws) : ws.flatten.length ≤ 1000 := by
  have := flat_len (n := 12) (k := 50) (by rw [ok.lws]; exact h12) ok.few
  omega
theorem fn_best (W : Wd T K mg base) : Fn T P w K mg base 4 "_law_best" spBest [] := by
  have hN : (["_law_clock_here", "_law_tick", "_law_standing", "_law_goal", "_law_told", "_law_many", "_law_bound", "_law_most", "_law_ways_here", "_law_start", "_law_end", "_law_one"] : List Str).Nodup := by decide +kernel
  obtain ⟨fd, hm, F⟩ := (W.dv 52 _ rfl).ex
  refine Fn.make (N := ["_law_clock_here", "_law_tick", "_law_standing", "_law_goal", "_law_told", "_law_many", "_law_bound", "_law_most", "_law_ways_here", "_law_start", "_law_end", "_law_one"]) (ps := ["_law_clock_here", "_law_tick", "_law_standing", "_law_goal", "_law_told"]) F hm ⟨rfl, rfl, rfl, by decide +kernel, rfl, by decide +kernel, by decide +kernel⟩ ?_ (fun _ _ _ _ _ _ us hl => match us, hl with | [_, _, _, _, _], _ => rfl) ?_
  · rintro as S ⟨c, t, st, g, told, rfl, _⟩
    exact ⟨rfl, by simp [Ent.isOwn]⟩
  · rintro cdv A outer s H E hr as S ⟨c, t, st, g, told, rfl, fit, B, hT, hS⟩
    have h12 := fit.ok.eds.few
    have p1 := B.p1
    have p4 := B.p4
    have ls := B.lst
    have lg := B.lg
    have t0 := B.t0
    have t1 := B.t1
    have k3 := B.k3
    refine ex_setD 5 (d := .int (manyF st g : Int)) hN (Ev.imp (ev_sumL (ns := (st.zip g).map fun q => max (q.1 - q.2) (q.2 - q.1)) rfl W.g.sum (Ev.r (Ev.imp (ev_lc (own := [("_law_start", 9), ("_law_end", 10)]) (L := st.zip g) (enc := fun q => .tuple [.int q.1, .int q.2]) (c := fun _ => true) (f := fun q => .int (max (q.1 - q.2) (q.2 - q.1))) rfl hN (blkOk_by (by kernel_rfl)) (by
      rw [← zipD2_map]
      exact wk_zip2 false false W.g.zip (ev_nm 2) (ev_nm 3)) (sz (by rw [List.length_zip]; omega)) (fun q hq => ⟨[.dat (dC c), .dat (.int t), .dat (dI st), .dat (dI g), .dat told, .unk, .unk, .unk, .unk, .dat (.int q.1), .dat (.int q.2), .unk], fun s H c' cl fp => ⟨bd_tup rfl (Bds.cons rfl (bd_nm 9 hN) (Bds.cons rfl (bd_nm 10 hN) .nil)), tvs_nil, fun _ => ev_max2 rfl W.g.max (ev_sub (ev_nm 9) (ev_nm 10)) (ev_sub (ev_nm 10) (ev_nm 9))⟩⟩)) fun d e => by rw [← e, ft, List.map_map]; rfl))) fun d e => by rw [← e, many_sum]; rfl) ?_
    have hb1 : t ≤ boundF c t (manyF st g) ∧ boundF c t (manyF st g) ≤ t + 2 * c.p * ((manyF st g : Int) + 1) ∧ (manyF st g = 3 → boundF c t (manyF st g) = t + 6) := by
      have hk : manyF st g = 0 ∨ manyF st g = 1 ∨ manyF st g = 2 ∨ manyF st g = 3 := by omega
      unfold boundF
      rcases hk with k | k | k | k <;> rw [k] <;> refine ⟨?_, ?_, ?_⟩ <;> simp <;> omega
    obtain ⟨hb1, hb2, hb3⟩ := hb1
    rcases hT with ⟨rfl, hnone⟩ | ⟨w0, rfl, ok, G, hl, hall⟩
    · refine ex_no _ (Wv.tv (wv_and (x := !isNon .none) (y := false) (Cv.tvb (cv_notN (ev_nm 4)) rfl) fun z => nomatch z)) rfl ?_
      refine ex_setD 6 (d := .int (boundF c t (manyF st g))) hN (ev_ifE (A := Eq (decide ((manyF st g : Int) < 3))) (Cv.tvb (cv_lt (ev_nm 5) ev_int) rfl) (fun h => Ev.imp (ev_add (ev_nm 1) (ev_mul (cm2 (i := 2 * c.p) (by omega) (by omega)) (ev_mul (.inl (by decide)) ev_int (ev_ixT (ev_nm 0).r ev_int rfl)) (ev_add (ev_nm 5) ev_int))) fun d e => by rw [← e, boundF, if_pos (of_decide_eq_true h)]) fun h => Ev.imp (ev_add (ev_nm 1) ev_int) fun d e => by rw [← e, boundF, if_neg (of_decide_eq_false h)]) ?_
      refine ex_setD 7 (d := .int (boundF c t (manyF st g))) hN (ev_ifE (A := Eq (isNon .none)) (Cv.tvb (cv_isN (ev_nm 4)) rfl) (fun _ => ev_nm 6) (fun z => nomatch z)) ?_
      refine ex_no (decide ((2 : Int) < (manyF st g : Int)) && decide (t + 9 < boundF c t (manyF st g))) (Wv.tv (wv_and (Cv.tvb (cv_gt (ev_nm 5) ev_int) rfl) fun _ => wv_and1 (Cv.tvb (cv_gt (ev_nm 7) (ev_add (ev_nm 1) ev_int)) rfl))) ?_ ?_
      · rw [Bool.and_eq_false_iff, decide_eq_false_iff_not, decide_eq_false_iff_not]
        by_cases hk : manyF st g = 3
        · right
          rw [hb3 hk]
          omega
        · left
          omega
      obtain ⟨n, wi⟩ := ways_in B hb1 hb2 fun k => by rw [hb3 k]; omega
      refine ex_set 8 hN (S := fun d => ∃ R : List (List (List Int)), (∀ ws ∈ R, GoesP c t st g ws ∧ WaysOk c t st g ws ∧ ∀ x ∈ ws.flatten, x ≤ boundF c t (manyF st g)) ∧ d = .list (R.map wD)) (ev_callD (fn_ways W) (hr.mono (by decide)) (ar_cons (ev_nm 0) (ar_cons (ev_nm 1) (ar_cons (ev_nm 2) (ar_cons (ev_nm 3) (ar_cons (ev_nm 7) ar_nil))))) ⟨c, t, boundF c t (manyF st g), st, g, n, rfl, fit, wi, fun R _ h => ⟨R, h, rfl⟩⟩) ?_
      rintro d ⟨R, hR, rfl⟩
      have hR0 : R = [] := by
        cases R with
        | nil => rfl
        | cons ws R =>
          obtain ⟨h1, h2, h3⟩ := hR ws List.mem_cons_self
          exact absurd h3 (hnone ws h2 h1)
      subst hR0
      refine ex_ret (ev_ifE (A := Eq (isNon .none)) (Cv.tvb (cv_isN (ev_nm 4)) rfl) (fun _ => Ev.imp (Cv.evb (cv_eqD (dx := .list []) (dy := .list []) (n := 3) hr (Ev.r (ev_nm 8)) (Ev.r (ev_lst evs_nil)) rfl rfl) rfl) fun d e => ?_) (fun z => nomatch z))
      rw [← e, eqv_nil']
      exact hS
    · have hf0 := flat_ok h12 ok
      refine ex_no _ (Wv.tv (wv_and (x := !isNon (wD w0)) (y := !true) (Cv.tvb (cv_notN (ev_nm 4)) rfl) fun _ => wv_and1 (tv_notb (tv_b (ev_callD (fn_goes W) (hr.mono (by decide)) (ar_cons (ev_nm 0) (ar_cons (ev_nm 1) (ar_cons (ev_nm 2) (ar_cons (ev_nm 3) (ar_cons (ev_nm 4) ar_nil))))) ⟨c, t, st, g, w0, rfl, fit, ok, fun _ => rfl, fun h => absurd G h⟩))))) rfl ?_
      refine ex_setD 6 (d := .int (boundF c t (manyF st g))) hN (ev_ifE (A := Eq (decide ((manyF st g : Int) < 3))) (Cv.tvb (cv_lt (ev_nm 5) ev_int) rfl) (fun h => Ev.imp (ev_add (ev_nm 1) (ev_mul (cm2 (i := 2 * c.p) (by omega) (by omega)) (ev_mul (.inl (by decide)) ev_int (ev_ixT (ev_nm 0).r ev_int rfl)) (ev_add (ev_nm 5) ev_int))) fun d e => by rw [← e, boundF, if_pos (of_decide_eq_true h)]) fun h => Ev.imp (ev_add (ev_nm 1) ev_int) fun d e => by rw [← e, boundF, if_neg (of_decide_eq_false h)]) ?_
      refine ex_setD 7 (d := .int (lastF t w0)) hN (ev_ifE (A := Eq (isNon (wD w0))) (Cv.tvb (cv_isN (ev_nm 4)) rfl) (fun z => nomatch z) (fun _ => Ev.imp (ev_maxL (ns := t :: w0.flatten) rfl W.g.max (Ev.r (Ev.imp (ev_catL (ds := [.int t]) (fs := w0.flatten.map .int) (Ev.r (ev_lst (evs_cons (ev_nm 1) evs_nil))) (Ev.r (ev_callD (fn_flat W) (hr.mono (by decide)) (ar_cons (ev_nm 4) ar_nil) ⟨w0, rfl, hf0, rfl⟩)) (by rw [List.length_map]; exact sz (by show 1 + _ ≤ _; omega))) fun d e => by rw [← e]; rfl)) (List.cons_ne_nil _ _)) fun d e => by rw [← e, maxL_I]; rfl)) ?_
      refine ex_if (A := Eq (decide ((2 : Int) < (manyF st g : Int)) && decide (t + 9 < lastF t w0))) (Wv.tv (wv_and (Cv.tvb (cv_gt (ev_nm 5) ev_int) rfl) fun _ => wv_and1 (Cv.tvb (cv_gt (ev_nm 7) (ev_add (ev_nm 1) ev_int)) rfl))) (fun _ => ex_ret (Ev.imp ev_bl fun d e => by rw [← e]; exact hS)) fun q => ?_
      rw [Bool.and_eq_false_iff, decide_eq_false_iff_not, decide_eq_false_iff_not] at q
      have hl0 : t ≤ lastF t w0 := le_maxI List.mem_cons_self
      obtain ⟨n, wi⟩ := ways_in B hl0 hl fun k => by
        rcases q with q | q
        · omega
        · omega
      refine ex_nil (ex_set 8 hN (S := fun d => ∃ R : List (List (List Int)), R.length ≤ 1000 ∧ (∀ ws ∈ R, GoesP c t st g ws ∧ WaysOk c t st g ws ∧ ∀ x ∈ ws.flatten, x ≤ lastF t w0) ∧ d = .list (R.map wD)) (ev_callD (fn_ways W) (hr.mono (by decide)) (ar_cons (ev_nm 0) (ar_cons (ev_nm 1) (ar_cons (ev_nm 2) (ar_cons (ev_nm 3) (ar_cons (ev_nm 7) ar_nil))))) ⟨c, t, lastF t w0, st, g, n, rfl, fit, wi, fun R h1 h => ⟨R, h1, h, rfl⟩⟩) ?_)
      rintro d ⟨R, hR1, hR, rfl⟩
      refine ex_ret (ev_ifE (A := Eq (isNon (wD w0))) (Cv.tvb (cv_isN (ev_nm 4)) rfl) (fun z => nomatch z) (fun _ => Ev.imp (Cv.evb (cv_eqD (dx := .list ((R.filter fun _ => false).map wD)) (dy := .list []) (n := 3) hr (Ev.r (ev_lc (own := [("_law_one", 11)]) (L := R) (enc := wD) (c := fun _ => false) (f := wD) rfl hN (blkOk_by (by kernel_rfl)) (wk_lst (ev_nm 8)) (sz (by omega)) (fun ws hws => ⟨[.dat (dC c), .dat (.int t), .dat (dI st), .dat (dI g), .dat (wD w0), .dat (.int (manyF st g : Int)), .dat (.int (boundF c t (manyF st g))), .dat (.int (lastF t w0)), .dat (.list (R.map wD)), .unk, .unk, .dat (wD ws)], fun s H c' cl fp => ⟨bd_nm 11 hN, tvs_one ?_, fun z => nomatch z⟩⟩))) (Ev.r (ev_lst evs_nil)) (shp_wDs _) rfl) rfl) fun d e => ?_))
      · obtain ⟨g1, g2, _⟩ := hR ws hws
        refine Tv.imp (tv_notb (tv_b (ev_callD (fn_up W) (hr.mono (by decide)) (ar_cons (ev_nm 4) (ar_cons (ev_nm 11) ar_nil)) ⟨w0, ws, rfl, hf0, flat_ok h12 g2, rfl⟩))) fun z e => ?_
        rw [← e, hall ws g2 g1]
        rfl
      · have h0 : R.filter (fun _ => false) = [] := List.filter_eq_nil_iff.mpr fun _ _ => Bool.false_ne_true
        rw [← e, eqv_nil', h0]
        exact hS
end
end DL
end
section
set_option Elab.async false
set_option linter.all false
set_option autoImplicit false
set_option maxRecDepth 100000
set_option maxHeartbeats 2000000
/-! Values not known beforehand: appended, added, drawn. -/
namespace DL
open PySem PySem.Spec L2
open PyProof.Rows hiding St
open MA
theorem LcOut.sub {α : Type} {C : α → Bool → Prop} {f : α → D} : ∀ {xs : List α} {ys : List D}, LcOut C (fun x y => y = f x) xs ys → ∃ M : List α, M.Sublist xs ∧ ys = M.map f
  | _, _, .nil => ⟨[], .slnil, rfl⟩
  | _, _, .keep _ hf h => by
    obtain ⟨M, h1, h2⟩ := LcOut.sub h
    exact ⟨_ :: M, h1.cons_cons _, by rw [h2, hf]; rfl⟩
  | _, _, .skip _ h => by
    obtain ⟨M, h1, h2⟩ := LcOut.sub h
    exact ⟨M, h1.cons _, h2⟩
theorem LcOut.all {α : Type} {C : α → Bool → Prop} {F : α → D → Prop} : ∀ {xs : List α} {ys : List D}, (∀ x, ¬ C x false) → LcOut C F xs ys → ys.length = xs.length
  | _, _, _, .nil => rfl
  | _, _, h0, .keep _ _ h => by rw [List.length_cons, List.length_cons, LcOut.all h0 h]
  | _, _, h0, .skip c h => absurd c (h0 _)
section
variable {T : Addr → Prop} {X : Cx} {es : List Ent} {e a b c : Expr} {l : List Expr} {body rest : List Stmt} {pos : Pos} {S A B C : D → Prop} {P : Po} {st : Stmt}
theorem ex_appS (i : Nat) {x : Str} {ds : List D} {px apos cpos : Pos} (he : es[i]? = some (.lst ds)) (hN : X.N[i]? = some x) (hv : Vis X.env.scope x) (ha : Ev T X es e A) (hr : ∀ d, A d → Ex T X (es.set i (.lst (ds ++ [d]))) rest P) (hl : ds.length < sizeLine)
    (hbase : attributeBase (.Name x px) "append" X.env (eval (.Name x px) X.env) = eval (.Name x px) X.env := by rfl)
    (hfew : ((backTo cpos (starEach [e] X.env)).all (fun x => !x.1) && (backToKw cpos (keywordEach [] X.env)).all (fun x => x.1.isSome) && decide ([e].length + ([] : List Keyword).length + (if ([] : List Keyword).isEmpty then 0 else 1) < 30)) = true := by rfl)
    (hline : (apos.endLine == cpos.line) = true := by rfl) (hs : starEach [e] X.env = (false, eval e X.env) :: starEach [] X.env := by rfl) (hplain : (backTo cpos (starEach [] X.env)).any (·.1) = false := by rfl)
    (hsw : swapsWith (.Call (.Attribute (.Name x px) "append" apos) [e] [] cpos) none pos.line X.env = pure false := by rfl) (hd : (x == ("__debug__" : Str)) = false := by decide) (hcd : (x == ("__classdict__" : Str)) = false := by decide) :
    Ex T X es (.Expr (.Call (.Attribute (.Name x px) "append" apos) [e] [] cpos) pos :: rest) P :=
  ex_cons fun p H σ D g o fi => by
    obtain ⟨q, xs, e1, l1, h1, r1⟩ := o.lst he
    refine wS1_of (ps_expr (pe_bm PySem.F.plainAttrs_list PySem.F.slot_list_append PySem.F.type_list_append mt_append (pv i hN hv hd hcd) (pa_cons pe_w pa_nil hs) hbase hfew hline hs hplain) hsw) ⟨_, e1, .inl ⟨rfl, _, SqL.of h1⟩, ?_⟩
    refine ha p H σ _ g o fun H1 v d' g1 rv qv => ?_
    have G1 := g.go g1
    have h1' := g1.own g l1 h1 (fun ps z => by cases z)
    have st := (Step.of_gr g g1).trans (step_write (a := q) (y := .lst (xs ++ [v])) G1 l1 h1' (fun ps z => by cases z))
    refine ⟨q, xs, v, rfl, rfl, h1', by rw [r1.length]; exact hl, fi.nx _ p _ σ st (hr d' qv) ((o.go g g1).write G1 l1 ⟨_, he, trivial⟩ e1 ⟨q, _, rfl, l1, upd_same, ?_⟩)⟩
    exact ((r1.mono g1.mono).append (.cons rv .nil)).mono (write_mono l1)
theorem ev_catLS {ds : List D} {B : List D → Prop} (ha : EvR T X es a (Eq (.list ds))) (hb : EvR T X es b (fun d => ∃ fs, d = .list fs ∧ B fs)) (hl : ∀ fs, B fs → ds.length + fs.length ≤ sizeLine) : Ev T X es (.BinOp a .Add b pos) (fun d => ∃ fs, d = .list (ds ++ fs) ∧ B fs) := fun p H σ Q g o k =>
  wE_of (pe_op op_cat pe_w pe_w) (ha p H σ _ g o fun H1 x dx g1 r1 q1 => hb p H1 σ _ (g.go g1) (o.go g g1) fun H2 y dy g2 r2 q2 => by
    subst q1
    obtain ⟨fs, rfl, hB⟩ := q2
    have g12 := g1.trans g2
    obtain ⟨a1, xs, e1, t1, s1⟩ := (r1.go (g.go g1) g2).lst
    obtain ⟨a2, ys, e2, t2, s2⟩ := r2.lst
    subst e1 e2
    exact ⟨a1, a2, xs, ys, rfl, rfl, t1, t2, by rw [s1.length, s2.length]; exact hl _ hB, fun q hq => k _ _ _ (g12.trans (gr_new hq)) (rp_newL (g.go g12) hq (s1.append s2)) ⟨fs, rfl, hB⟩⟩)
theorem ex_parS (i j : Nat) {x y : Str} {px py pt : Pos} {kt k2 : Nat} {pt2 : Pos} (hc : X.calm = true) (hN : X.N.Nodup) (ha : Ev T X es a A) (hb : Ev T X es b B) (hr : ∀ d f, A d → B f → Ex T X ((es.set i (.dat d)).set j (.dat f)) rest P) (hij : i ≠ j := by decide) (hi : X.N[i]? = some x := by rfl) (hj : X.N[j]? = some y := by rfl)
    (hx : X.env.scope.names.lookup x = some .local := by rfl) (hy : X.env.scope.names.lookup y = some .local := by rfl)
    (hw : swappedStores [.Tuple [.Name x px, .Name y py] kt pt] (.Tuple [a, b] k2 pt2) X.env = pure (some [x, y]) := by rfl)
    (hs : swapsWithSole [.Tuple [.Name x px, .Name y py] kt pt] (.Tuple [a, b] k2 pt2) pos.line X.env = pure false := by rfl)
    (h1 : starEach [a, b] X.env = (false, eval a X.env) :: starEach [b] X.env := by rfl) (h2 : starEach [b] X.env = (false, eval b X.env) :: starEach [] X.env := by rfl) :
    Ex T X es (.Assign [.Tuple [.Name x px, .Name y py] kt pt] (.Tuple [a, b] k2 pt2) pos :: rest) P :=
  ex_cons fun p H σ D g o fi => wS1_of (ps_par hc hN hi hj hij hx hy (pa_cons pe_w (pa_cons pe_w pa_nil h2) h1) hw hs)
    (ha p H σ _ g o fun H1 v d g1 r1 q1 => hb p H1 σ _ (g.go g1) (o.go g g1) fun H2 w f g2 r2 q2 =>
      ⟨v, w, rfl, fi.nx _ p H2 _ (.of_gr g (g1.trans g2)) (hr d f q1 q2) (((o.go g (g1.trans g2)).set (d := .dat d) (fun z => z) ⟨v, rfl, r1.mono g2.mono⟩).set (d := .dat f) (fun z => z) ⟨w, rfl, r2⟩)⟩)
theorem ev_ixLR {ds : List D} (ha : EvR T X es a (Eq (.list ds))) (hb : Ev T X es b (fun d => ∃ k : Int, d = .int k ∧ 0 ≤ k ∧ k < ds.length)) (hS : ∀ d ∈ ds, S d) (hs : PlainIx b := by exact fun _ _ => rfl) : Ev T X es (.Subscript a b pos) S := fun p H σ Q g o k =>
  wE_of (pe_ix ix_list pe_w pe_w hs) (ha p H σ _ g o fun H1 x dx g1 r1 q1 => hb p H1 σ _ (g.go g1) (o.go g g1) fun H2 y dy g2 r2 q2 => by
    subst q1
    obtain ⟨i, rfl, h0, h1⟩ := q2
    obtain ⟨a', xs, e, hq, r⟩ := (r1.go (g.go g1) g2).lst
    obtain ⟨d, hd⟩ : ∃ d, atI ds i = some d := by
      refine ⟨ds[i.toNat]'(by omega), ?_⟩
      rw [atI_at (d := PyData.none) h0 h1]
      congr 1
      rw [List.getD_eq_getElem?_getD, List.getElem?_eq_getElem (by omega)]
      rfl
    have hm : d ∈ ds := by
      unfold atI at hd
      obtain ⟨j, _, hj⟩ := Option.bind_eq_some_iff.mp hd
      exact List.mem_of_getElem? hj
    obtain ⟨j, v, e1, e2, e3⟩ := atI_of r.length hd
    obtain ⟨v', e4, rv⟩ := r.get e3
    rw [e1] at e4
    cases e4
    exact ⟨a', xs, i, v, e, r2.int_v, .of hq, e2, k H2 _ _ (g1.trans g2) rv (hS d hm)⟩)
end
section
variable {T : Addr → Prop} {P : Program} {w : World} {K : PySem.W.Frag} {mg : Str → Option Value} {base : Heap}
open LHead
/-- a draw -/
theorem ev_take {X : Cx} {es : List Ent} {b : Expr} {k : Nat} {m : Int} {ns : List Int} {p1 px pos : Pos} {x : Str} (i : Nat) (F : Fn T X.prog X.w X.K X.mg X.base k "_law_taken" spTaken []) (hr : Room k X.A) (hb : Ev T X es b (Eq (.int m))) (h1 : 1 ≤ m) (h2 : m ≤ 1000) (he : es[i]? = some (.row ns) := by rfl) (hN : X.N[i]? = some x := by rfl) (hv : Vis X.env.scope x := by first | exact Or.inl rfl | exact Or.inr (Or.inl rfl) | exact Or.inr (Or.inr rfl)) (hd : (x == ("__debug__" : Str)) = false := by decide) (hcd : (x == ("__classdict__" : Str)) = false := by decide)
    (hg : Gl X "_law_taken" := by rfl) (hs : starEach (.Name x px :: [b]) X.env = (false, eval (.Name x px) X.env) :: starEach [b] X.env := by rfl) (hs2 : starEach (b :: []) X.env = (false, eval b X.env) :: starEach [] X.env := by rfl) (hpl : (backTo pos (starEach [b] X.env)).any (·.1) = false := by rfl) :
    Ev T X es (.Call (.Name "_law_taken" p1) [.Name x px, b] [] pos) (Under m) :=
  ev_call F hr (ar_row i (ar_cons hb ar_nil hs2) he hN hv hd hcd hs) (fun as ⟨r, e, q⟩ => by
    subst q
    subst e
    exact ⟨ns, m, rfl, h1, h2, fun d h => h⟩) hg (by decide) hs hpl
def spPick : SpP := fun as S => ∃ (ns : List Int) (ds : List D), as = [.row ns, .dat (.list ds)] ∧ ds ≠ [] ∧ ds.length ≤ 1000 ∧ ∀ d ∈ ds, S d
theorem fn_pick (W : Wd T K mg base) : Fn T P w K mg base 2 "_law_pick" spPick [] := by
  have hN : (["_law_row", "_law_things"] : List Str).Nodup := by decide +kernel
  obtain ⟨fd, hm, F⟩ := (W.dv 44 _ rfl).ex
  refine Fn.make (N := ["_law_row", "_law_things"]) (ps := ["_law_row", "_law_things"]) F hm ⟨rfl, rfl, rfl, by decide +kernel, rfl, by decide +kernel, by decide +kernel⟩ ?_ (fun _ _ _ _ _ _ us hl => match us, hl with | [_, _], _ => rfl) ?_
  · rintro as S ⟨ns, ds, rfl, _⟩
    exact ⟨rfl, by simp [Ent.isOwn]⟩
  · rintro cdv A outer s H E hr as S ⟨ns, ds, rfl, h0, h1, hS⟩
    have hl : 0 < ds.length := List.length_pos_iff.mpr h0
    exact ex_ret (ev_ixLR (Ev.r (ev_nm 1)) (Ev.imp (ev_take 0 (fn_taken W) hr (ev_lenL W.g.len (Ev.r (ev_nm 1))) (by omega) (by omega)) fun d q => q) hS)
end
end DL
end
section
set_option Elab.async false
set_option linter.all false
set_option autoImplicit false
set_option maxRecDepth 100000
set_option maxHeartbeats 2000000
/-! The law's own defs: the clock drawn. -/
namespace MA
def tL1 (n ph a : Int) : List (Int × Int × Int) := (rngI (a + 1) n).map fun b => (ph, a, b)
def tL2 (n ph : Int) : List (Int × Int × Int) := (rngI 0 n).flatMap (tL1 n ph)
def tL (p n : Int) : List (Int × Int × Int) := (rngI 0 p).flatMap (tL2 n)
def kL1 (n w o : Int) : List (Int × Int × Int) := (rngI 0 n).map fun x => (w, o, x)
def kL2 (eds : List Int) (n w : Int) : List (Int × Int × Int) := (rngI 1 (gI eds w + 1)).flatMap (kL1 n w)
def kL (eds : List Int) (n : Int) : List (Int × Int × Int) := (rngI 0 n).flatMap (kL2 eds n)
theorem pw_mono {α : Type} {R R' : α → α → Prop} {l : List α} (h : l.Pairwise R) (f : ∀ a b, R a b → R' a b) : l.Pairwise R' := h.imp fun {a b} r => f a b r
theorem tL1_mem {n ph a : Int} {x : Int × Int × Int} (h : x ∈ tL1 n ph a) : x.1 = ph ∧ x.2.1 = a ∧ a + 1 ≤ x.2.2 ∧ x.2.2 < n := by
  obtain ⟨b, hb, rfl⟩ := List.mem_map.mp h
  obtain ⟨h1, h2⟩ := mem_rngI.mp hb
  exact ⟨rfl, rfl, h1, h2⟩
theorem tL2_mem {n ph : Int} {x : Int × Int × Int} (h : x ∈ tL2 n ph) : x.1 = ph ∧ 0 ≤ x.2.1 ∧ x.2.1 < n ∧ x.2.1 + 1 ≤ x.2.2 ∧ x.2.2 < n := by
  obtain ⟨a, ha, hx⟩ := List.mem_flatMap.mp h
  obtain ⟨h1, h2⟩ := mem_rngI.mp ha
  obtain ⟨q1, q2, q3, q4⟩ := tL1_mem hx
  exact ⟨q1, by omega, by omega, by omega, q4⟩
theorem tL_mem {p n : Int} {x : Int × Int × Int} (h : x ∈ tL p n) : 0 ≤ x.1 ∧ x.1 < p ∧ 0 ≤ x.2.1 ∧ x.2.1 < n ∧ x.2.1 + 1 ≤ x.2.2 ∧ x.2.2 < n := by
  obtain ⟨a, ha, hx⟩ := List.mem_flatMap.mp h
  obtain ⟨h1, h2⟩ := mem_rngI.mp ha
  obtain ⟨q1, q2⟩ := tL2_mem hx
  exact ⟨by omega, by omega, q2⟩
theorem tL_up (p n : Int) : (tL p n).Pairwise lex3 := by
  refine List.pairwise_flatMap.mpr ⟨fun ph _ => List.pairwise_flatMap.mpr ⟨fun a _ => ?_, ?_⟩, ?_⟩
  · refine List.pairwise_map.mpr (pw_mono (rngI_pw _ _) fun x y h => .inr ⟨rfl, .inr ⟨rfl, h⟩⟩)
  · refine pw_mono (rngI_pw _ _) fun a b h x hx y hy => ?_
    obtain ⟨q1, q2, _⟩ := tL1_mem hx
    obtain ⟨r1, r2, _⟩ := tL1_mem hy
    exact .inr ⟨by rw [q1, r1], .inl (by omega)⟩
  · refine pw_mono (rngI_pw _ _) fun a b h x hx y hy => ?_
    have q1 := (tL2_mem hx).1
    have r1 := (tL2_mem hy).1
    exact .inl (by omega)
theorem kL1_mem {n w o : Int} {x : Int × Int × Int} (h : x ∈ kL1 n w o) : x.1 = w ∧ x.2.1 = o ∧ 0 ≤ x.2.2 ∧ x.2.2 < n := by
  obtain ⟨b, hb, rfl⟩ := List.mem_map.mp h
  obtain ⟨h1, h2⟩ := mem_rngI.mp hb
  exact ⟨rfl, rfl, h1, h2⟩
theorem kL2_mem {eds : List Int} {n w : Int} {x : Int × Int × Int} (h : x ∈ kL2 eds n w) : x.1 = w := by
  obtain ⟨a, _, hx⟩ := List.mem_flatMap.mp h
  exact (kL1_mem hx).1
theorem kL_up (eds : List Int) (n : Int) : (kL eds n).Pairwise lex3 := by
  refine List.pairwise_flatMap.mpr ⟨fun w _ => List.pairwise_flatMap.mpr ⟨fun o _ => ?_, ?_⟩, ?_⟩
  · refine List.pairwise_map.mpr (pw_mono (rngI_pw _ _) fun x y h => .inr ⟨rfl, .inr ⟨rfl, h⟩⟩)
  · refine pw_mono (rngI_pw _ _) fun a b h x hx y hy => ?_
    obtain ⟨q1, q2, _⟩ := kL1_mem hx
    obtain ⟨r1, r2, _⟩ := kL1_mem hy
    exact .inr ⟨by rw [q1, r1], .inl (by omega)⟩
  · refine pw_mono (rngI_pw _ _) fun a b h x hx y hy => ?_
    have q1 := kL2_mem hx
    have r1 := kL2_mem hy
    exact .inl (by omega)
theorem fm_len {α β : Type} {f : α → List β} {l : List α} {k n : Nat} (hn : l.length ≤ n) (h : ∀ x ∈ l, (f x).length ≤ k) : (l.flatMap f).length ≤ n * k := by
  rw [List.flatMap_def]
  exact Nat.le_trans (flat_lenE h) (Nat.mul_le_mul_right _ hn)
theorem tL_len {p n : Int} (hp : p ≤ 4) (hn : n ≤ 3) : (tL p n).length ≤ 36 := fm_len (n := 4) (k := 9) (by rw [DL.rngI_len]; omega) fun ph _ => fm_len (n := 3) (k := 3) (by rw [DL.rngI_len]; omega) fun a ha => by
  unfold tL1
  have := mem_rngI.mp ha
  rw [List.length_map, DL.rngI_len]
  omega
theorem kL_len {eds : List Int} {n : Int} (hn : n ≤ 3) (h : ∀ w, gI eds w ≤ 4) : (kL eds n).length ≤ 36 := fm_len (n := 3) (k := 12) (by rw [DL.rngI_len]; omega) fun w _ => fm_len (n := 4) (k := 3) (by have := h w; rw [DL.rngI_len]; omega) fun o _ => by
  unfold kL1
  rw [List.length_map, DL.rngI_len]
  omega
theorem sub_take {α : Type} {M L : List α} {i : Nat} (h : M.Sublist (L.take i)) : M.Sublist L := h.trans (List.take_sublist i L)
theorem fm_snoc {α β : Type} {f : α → List β} {l : List α} {x : α} : (l ++ [x]).flatMap f = l.flatMap f ++ f x := by
  rw [List.flatMap_append, List.flatMap_singleton]
structure ClkLaw (c : Clk) : Prop where
  fit : c.Fit
  p4 : c.p ≤ 4
  w3 : c.eds.length ≤ 3
  s3 : c.eds.sum ≤ 3
def BkN (eds : List Int) (b : Int × Int × Int × Int) : Prop := 0 ≤ b.1 ∧ b.1 ≤ (eds.length : Int) - 1 ∧ 1 ≤ b.2.1 ∧ b.2.1 ≤ gI eds b.1 ∧ 0 ≤ b.2.2.1 ∧ b.2.2.1 ≤ (eds.length : Int) - 1 ∧ b.1 ≠ b.2.2.1 ∧ 1 ≤ b.2.2.2 ∧ b.2.2.2 ≤ gI eds b.2.2.1
structure GpN (p : Int) (eds : List Int) (l : List (List Int)) : Prop where
  num : ∀ g ∈ l, ∀ x ∈ g, 0 ≤ x ∧ x ≤ p - 1
  up : ∀ g ∈ l, g.Pairwise (· < ·)
  some_ : ∀ i : Nat, ∀ e, eds[i]? = some e → 0 < e → ∀ g, l[i]? = some g → g ≠ []
theorem gI_ge {eds : List Int} (h : ∀ e ∈ eds, 0 ≤ e) (w : Int) : 0 ≤ gI eds w := by
  unfold gI
  rw [List.getD_eq_getElem?_getD]
  cases hw : eds[w.toNat]? with
  | none => exact Int.le_refl _
  | some e => exact h e (List.mem_of_getElem? hw)
theorem gI_le {eds : List Int} {k : Int} (hk : 0 ≤ k) (h : ∀ e ∈ eds, e ≤ k) (w : Int) : gI eds w ≤ k := by
  unfold gI
  rw [List.getD_eq_getElem?_getD]
  cases hw : eds[w.toNat]? with
  | none => exact hk
  | some e => exact h e (List.mem_of_getElem? hw)
end MA
namespace DL
open PySem PySem.Spec L2
open PyProof.Rows hiding St
open MA
section
variable {T : Addr → Prop} {X : Cx} {es : List Ent} {elt tg iter : Expr} {ifs : List Expr} {scope : Scope} {pos : Pos} {own : List (Str × Nat)} {α : Type} {enc : α → D}
theorem ev_lcF {L : List α} {f : α → D} (hc : X.calm = true) (hN : X.N.Nodup) (ok : BlkOk X.N X.env.scope scope own) (hi : Wk T X es tg iter (Eq (L.map enc))) (hl : L.length ≤ sizeLine)
    (hb : ∀ x ∈ L, ∃ es', ∀ s H c' cl fp, Bd T (bX X scope s H c' cl fp) (own.map (·.2)) tg (enc x) (wipeE es (own.map (·.2))) es' ∧ Tvs T (bX X scope s H c' cl fp) es' ifs (fun _ => True) ∧ Ev T (bX X scope s H c' cl fp) es' elt (Eq (f x)))
    (hs : ∀ x, foldedSetIterable iter X.env x = pure x := by intro _; rfl) : Ev T X es (.ListComp elt [⟨tg, iter, ifs, 0⟩] scope pos) (fun d => ∃ M : List α, M.Sublist L ∧ d = .list (M.map f)) :=
  (ev_lcS (A := fun M => M = L) (C := fun _ _ => True) (F := fun x y => y = f x) hc hN ok (fun p H σ R g o k => hi p H σ R g o fun J H1 xs g1 e W => k J H1 xs g1 ⟨L, e.symm, rfl⟩ W) (fun M e => by rw [e]; exact hl) (fun M e x hx => by
    rw [e] at hx
    obtain ⟨es', h⟩ := hb x hx
    exact ⟨es', fun s H c cl fp => ⟨(h s H c cl fp).1, (h s H c cl fp).2.1, fun _ => (h s H c cl fp).2.2.imp fun d e => e.symm⟩⟩) hs).imp fun d ⟨M, ys, e1, e2, h⟩ => by
      subst e1 e2
      obtain ⟨N, h1, h2⟩ := h.sub
      exact ⟨N, h1, by rw [h2]⟩
theorem ex_setLcF (i : Nat) {x : Str} {px cpos : Pos} {rest : List Stmt} {P : Po} {L : List α} {f : α → D} (hN : X.N.Nodup) (hc : X.calm = true) (ok : BlkOk X.N X.env.scope scope own) (hi : Wk T X es tg iter (Eq (L.map enc))) (hl : L.length ≤ sizeLine)
    (hb : ∀ x ∈ L, ∃ es', ∀ s H c' cl fp, Bd T (bX X scope s H c' cl fp) (own.map (·.2)) tg (enc x) (wipeE es (own.map (·.2))) es' ∧ Tvs T (bX X scope s H c' cl fp) es' ifs (fun _ => True) ∧ Ev T (bX X scope s H c' cl fp) es' elt (Eq (f x)))
    (hr : ∀ M : List α, M.Sublist L → Ex T X (es.set i (.dat (.list (M.map f)))) rest P)
    (hy : X.N[i]? = some x := by rfl) (hyl : X.env.scope.names.lookup x = some .local := by rfl) (hsw : swapsWith (.ListComp elt [⟨tg, iter, ifs, 0⟩] scope cpos) (some (.Name x px)) pos.line X.env = pure true := by exact sw_true rfl rfl rfl (by decide +kernel)) (hs : ∀ x, foldedSetIterable iter X.env x = pure x := by intro _; rfl) : Ex T X es (.Assign [.Name x px] (.ListComp elt [⟨tg, iter, ifs, 0⟩] scope cpos) pos :: rest) P :=
  ex_setLc i (A := fun M => M = L) (C := fun _ _ => True) (F := fun x y => y = f x) hN hc ok (fun p H σ R g o k => hi p H σ R g o fun J H1 xs g1 e W => k J H1 xs g1 ⟨L, e.symm, rfl⟩ W) (fun M e => by rw [e]; exact hl) (fun M e x hx => by
    rw [e] at hx
    obtain ⟨es', h⟩ := hb x hx
    exact ⟨es', fun s H c cl fp => ⟨(h s H c cl fp).1, (h s H c cl fp).2.1, fun _ => (h s H c cl fp).2.2.imp fun d e => e.symm⟩⟩) (fun M ys e h => by
    subst e
    obtain ⟨N, h1, h2⟩ := h.sub
    rw [h2]
    exact hr N h1) hy hyl hsw hs
end
section
variable {T : Addr → Prop} {P : Program} {w : World} {K : PySem.W.Frag} {mg : Str → Option Value} {base : Heap}
open LHead
def InI (a b : Int) (d : D) : Prop := ∃ k : Int, d = .int k ∧ a ≤ k ∧ k ≤ b
def spClock : SpP := fun as S => ∃ ns : List Int, as = [.row ns] ∧ ∀ c, ClkLaw c → S (dC c)
theorem fn_clockL (W : Wd T K mg base) : Fn T P w K mg base 2 "_law_clock" spClock [] := by
  have hN : (["_law_row", "_law_period", "_law_wheels", "_law_editions", "_law_left", "_law_wheel", "_law_touches", "_law_gaps", "_law_book", "_law_phase", "_law_one", "_law_other", "_law_last", "_law_phases", "_law_own"] : List Str).Nodup := by decide +kernel
  obtain ⟨fd, hm, F⟩ := (W.dv 46 _ rfl).ex
  refine Fn.make (N := ["_law_row", "_law_period", "_law_wheels", "_law_editions", "_law_left", "_law_wheel", "_law_touches", "_law_gaps", "_law_book", "_law_phase", "_law_one", "_law_other", "_law_last", "_law_phases", "_law_own"]) (ps := ["_law_row"]) F hm ⟨rfl, rfl, rfl, by decide +kernel, rfl, by decide +kernel, by decide +kernel⟩ ?_ (fun _ _ _ _ _ _ us hl => match us, hl with | [_], _ => rfl) ?_
  · rintro as S ⟨ns, rfl, _⟩
    exact ⟨rfl, by simp [Ent.isOwn]⟩
  · rintro cdv A outer s H E hr as S ⟨ns, rfl, hS⟩
    refine ex_parS 1 2 (A := InI 1 4) (B := InI 1 3) rfl hN
      (ev_opI0 op_add ev_int (ev_take 0 (fn_taken W) hr ev_int (by decide) (by decide)) fun x y q1 q2 => by
        obtain ⟨k, rfl, k0, k1⟩ := q2
        exact ⟨1, k, q1.symm, rfl, _, rfl, by omega, by omega⟩)
      (ev_opI0 op_add ev_int (ev_take 0 (fn_taken W) hr ev_int (by decide) (by decide)) fun x y q1 q2 => by
        obtain ⟨k, rfl, k0, k1⟩ := q2
        exact ⟨1, k, q1.symm, rfl, _, rfl, by omega, by omega⟩) ?_
    rintro _ _ ⟨p, rfl, p1, p4⟩ ⟨n, rfl, n1, n3⟩
    refine ex_par 3 4 (f := .lst []) (f' := .dat (.int 3)) rfl hN evn_lst0 (evn_d ev_int) ?_
    refine ex_forD [5] (L := rngI 0 n) (enc := .int) (fun i es => ∃ (eds : List Int) (z5 : Ent), eds.length = i ∧ (∀ e ∈ eds, 0 ≤ e ∧ e ≤ 4) ∧ eds.sum ≤ 3 ∧ es = [.row ns, .dat (.int p), .dat (.int n), .lst (eds.map .int), .dat (.int (3 - eds.sum)), z5, .unk, .unk, .unk, .unk, .unk, .unk, .unk, .unk, .unk]) .never rfl (by
      rw [← rngL0]
      exact wk_rng1 W.g.range (ev_nm 2) (by omega) (by omega)) ⟨[], _, rfl, (fun e h => nomatch h), by decide, rfl⟩ ?_ ?_
    · rintro i x es' hi ⟨eds, z5, hl, hnum, hsum, rfl⟩
      have hi3 : i < 3 := by
        obtain ⟨h1, _⟩ := List.getElem?_eq_some_iff.mp hi
        rw [rngI_len] at h1
        omega
      refine ⟨_, bd_nm 5 hN, ?_⟩
      refine ex_appS 3 (A := fun d => ∃ k : Int, d = .int k ∧ 0 ≤ k ∧ k ≤ 2 ∧ k ≤ 3 - eds.sum) rfl rfl (.inl rfl) (ev_min2S rfl W.g.min (ev_nm 4) (ev_take 0 (fn_taken W) hr ev_int (by decide) (by decide)) fun x y q1 q2 => by
        obtain ⟨k, rfl, k0, k1⟩ := q2
        exact ⟨_, k, q1.symm, rfl, _, rfl, by omega, by omega, by omega⟩) ?_ (by rw [List.length_map]; exact Nat.lt_of_le_of_lt (by omega : _ ≤ 12) (by decide))
      rintro _ ⟨k, rfl, k0, k2, k3⟩
      have e1 : eds.map PyData.int ++ [.int k] = (eds ++ [k]).map .int := by rw [List.map_append]; rfl
      rw [e1]
      have hs' : (eds ++ [k]).sum = eds.sum + k := by rw [List.sum_append]; simp
      refine ex_setD 4 (d := .int (3 - (eds ++ [k]).sum)) hN (Ev.imp (ev_sub (ev_nm 4) (ev_ixL (ds := (eds ++ [k]).map .int) (evr_lst 3) (ev_neg ev_int) (last_at (by simp)))) fun d e => by
        rw [← e, hs', List.getLastD_eq_getLast?, List.getLast?_append]
        simp
        omega) (ex_nil ⟨eds ++ [k], .dat (.int x), ?_, fun e he => ?_, ?_, rfl⟩)
      · rw [List.length_append, hl]
        rfl
      · rcases List.mem_append.mp he with z | z
        · exact hnum e z
        · rw [List.mem_singleton.mp z]
          omega
      · omega
    rintro es' ⟨eds, z5, hl, hnum, hsum, rfl⟩
    rw [rngI_len] at hl
    have hln : (eds.length : Int) = n := by omega
    have hg4 : ∀ w, gI eds w ≤ 4 := gI_le (by decide) fun e he => (hnum e he).2
    have hg0 : ∀ w, 0 ≤ gI eds w := gI_ge fun e he => (hnum e he).1
    refine ex_frzL 3 rfl ?_
    refine ex_par3 6 7 8 (f := .dat (.list [])) (f' := .lst []) (f'' := .lst []) rfl hN (evn_d (ev_lst evs_nil)) evn_lst0 evn_lst0 ?_
    -- touches
    refine ex_forD [9] (L := rngI 0 p) (enc := .int) (fun i es => ∃ (M : List (Int × Int × Int)) (z9 z10 z11 : Ent), M.Sublist (((rngI 0 p).take i).flatMap (tL2 n)) ∧ es = [.row ns, .dat (.int p), .dat (.int n), .dat (.list (eds.map .int)), .dat (.int (3 - eds.sum)), z5, .dat (.list (M.map dT3)), .lst [], .lst [], z9, z10, z11, .unk, .unk, .unk]) .never rfl (by
      rw [← rngL0]
      exact wk_rng1 W.g.range (ev_nm 1) (by omega) (by omega)) ⟨[], _, _, _, .slnil, rfl⟩ ?_ ?_
    · rintro i ph es' hi ⟨M, z9, z10, z11, hM, rfl⟩
      refine ⟨_, bd_nm 9 hN, ?_⟩
      refine ex_forD [10] (L := rngI 0 n) (enc := .int) (fun j es => ∃ (M : List (Int × Int × Int)) (z10 z11 : Ent), M.Sublist (((rngI 0 p).take i).flatMap (tL2 n) ++ ((rngI 0 n).take j).flatMap (tL1 n ph)) ∧ es = [.row ns, .dat (.int p), .dat (.int n), .dat (.list (eds.map .int)), .dat (.int (3 - eds.sum)), z5, .dat (.list (M.map dT3)), .lst [], .lst [], .dat (.int ph), z10, z11, .unk, .unk, .unk]) .never rfl (by
        rw [← rngL0]
        exact wk_rng1 W.g.range (ev_nm 2) (by omega) (by omega)) ⟨M, _, _, by rw [List.take_zero, List.flatMap_nil, List.append_nil]; exact hM, rfl⟩ ?_ ?_
      · rintro j a es' hj ⟨M, z10, z11, hM, rfl⟩
        have ha := mem_rngI.mp (List.mem_of_getElem? hj)
        have hML : M.length ≤ 1000 := by
          have h1 := hM.length_le
          have h2 : (((rngI 0 p).take i).flatMap (tL2 n)).length ≤ 4 * 9 := fm_len (by rw [List.length_take, rngI_len]; omega) fun ph _ => fm_len (n := 3) (k := 3) (by rw [rngI_len]; omega) fun a ha => by
            unfold tL1
            have := mem_rngI.mp ha
            rw [List.length_map, rngI_len]
            omega
          have h3 : (((rngI 0 n).take j).flatMap (tL1 n ph)).length ≤ 3 * 3 := fm_len (by rw [List.length_take, rngI_len]; omega) fun a ha => by
            unfold tL1
            have := mem_rngI.mp (List.mem_of_mem_take ha)
            rw [List.length_map, rngI_len]
            omega
          rw [List.length_append] at h1
          omega
        refine ⟨_, bd_nm 10 hN, ?_⟩
        refine ex_set 6 hN (S := fun d => ∃ fs, d = .list (M.map dT3 ++ fs) ∧ ∃ M' : List Int, M'.Sublist (rngI (a + 1) n) ∧ fs = M'.map fun b => dT3 (ph, a, b)) (ev_catLS (ev_nm 6).r (Ev.r (Ev.imp (ev_lcF (own := [("_law_other", 11)]) (L := rngI (a + 1) n) (enc := .int) (f := fun b => dT3 (ph, a, b)) rfl hN (blkOk_by (by kernel_rfl)) (by
          rw [← rngL_map]
          exact wk_rng2 W.g.range (ev_add (ev_nm 10) ev_int) (ev_nm 2) (by omega)) (sz (by rw [rngI_len]; omega)) (fun b hb => ⟨[.row ns, .dat (.int p), .dat (.int n), .dat (.list (eds.map .int)), .dat (.int (3 - eds.sum)), z5, .dat (.list (M.map dT3)), .lst [], .lst [], .dat (.int ph), .dat (.int a), .dat (.int b), .unk, .unk, .unk], fun s H c' cl fp => ⟨bd_nm 11 hN, tvs_one (Cv.tv (cv_I op_eqI (ev_take 0 (fn_taken W) hr ev_int (by decide) (by decide)) ev_int fun x y q1 q2 => by
            obtain ⟨k, rfl, _⟩ := q1
            exact ⟨k, 0, rfl, q2.symm, _, rfl, trivial⟩) (nobehind _ (by decide) (by decide))), ev_tup (evs_cons (ev_nm 9) (evs_cons (ev_nm 10) (evs_cons (ev_nm 11) evs_nil)))⟩⟩)) fun d ⟨M', h1, h2⟩ => ⟨_, h2, M', h1, rfl⟩)) fun fs ⟨M', h1, h2⟩ => by
          have := h1.length_le
          rw [rngI_len] at this
          rw [h2, List.length_map, List.length_map]
          exact sz (by omega)) ?_
        rintro _ ⟨_, rfl, M', hM', rfl⟩
        have e1 : M.map dT3 ++ M'.map (fun b => dT3 (ph, a, b)) = (M ++ M'.map fun b => (ph, a, b)).map dT3 := by
          rw [List.map_append, List.map_map]
          rfl
        rw [e1]
        refine ex_nil ⟨_, .dat (.int a), z11, ?_, rfl⟩
        rw [take_snoc hj, fm_snoc, ← List.append_assoc]
        exact hM.append (hM'.map _)
      · rintro es' ⟨M, z10, z11, hM, rfl⟩
        rw [List.take_length] at hM
        refine ex_nil ⟨M, _, _, _, ?_, rfl⟩
        rw [take_snoc hi, fm_snoc]
        exact hM
    rintro es' ⟨M, z9, z10, z11, hM, rfl⟩
    rw [List.take_length] at hM
    have hM : M.Sublist (tL p n) := hM
    -- gaps
    refine ex_forD [12] (L := eds) (enc := .int) (fun i es => ∃ (G : List (List Int)) (z12 z13 : Ent), G.length = i ∧ GpN p eds G ∧ es = [.row ns, .dat (.int p), .dat (.int n), .dat (.list (eds.map .int)), .dat (.int (3 - eds.sum)), z5, .dat (.list (M.map dT3)), .lst (G.map dI), .lst [], z9, z10, z11, z12, z13, .unk]) .never rfl (wk_lst (ev_nm 3)) ⟨[], _, _, rfl, ⟨(fun g h => nomatch h), (fun g h => nomatch h), fun i e _ _ g h => nomatch h⟩, rfl⟩ ?_ ?_
    · rintro i last es' hi ⟨G, z12, z13, hGl, hG, rfl⟩
      have hi3 : i < 3 := by
        obtain ⟨h1, _⟩ := List.getElem?_eq_some_iff.mp hi
        omega
      refine ⟨_, bd_nm 12 hN, ?_⟩
      refine ex_setLcF 13 (own := [("_law_phase", 9)]) (L := rngI 0 p) (enc := .int) (f := .int) hN rfl (blkOk_by (by kernel_rfl)) (by
        rw [← rngL0]
        exact wk_rng1 W.g.range (ev_nm 1) (by omega) (by omega)) (sz (by rw [rngI_len]; omega)) (fun b hb => ⟨[.row ns, .dat (.int p), .dat (.int n), .dat (.list (eds.map .int)), .dat (.int (3 - eds.sum)), z5, .dat (.list (M.map dT3)), .lst (G.map dI), .lst [], .dat (.int b), z10, z11, .dat (.int last), z13, .unk], fun s H c' cl fp => ⟨bd_nm 9 hN, tvs_one (Cv.tv (cv_I op_eqI (ev_take 0 (fn_taken W) hr ev_int (by decide) (by decide)) ev_int fun x y q1 q2 => by
          obtain ⟨k, rfl, _⟩ := q1
          exact ⟨k, 0, rfl, q2.symm, _, rfl, trivial⟩) (nobehind _ (by decide) (by decide))), ev_nm 9⟩⟩) ?_
      intro M' hM'
      have hMl : M'.length ≤ 4 := by
        have := hM'.length_le
        rw [rngI_len] at this
        omega
      refine ex_appS 7 (A := fun d => ∃ g : List Int, d = dI g ∧ (∀ x ∈ g, 0 ≤ x ∧ x ≤ p - 1) ∧ g.Pairwise (· < ·) ∧ (0 < last → g ≠ [])) rfl rfl (.inl rfl) (Ev.imp (ev_tupLS (B := fun ds => ∃ g : List Int, ds = g.map .int ∧ (∀ x ∈ g, 0 ≤ x ∧ x ≤ p - 1) ∧ g.Pairwise (· < ·) ∧ (0 < last → g ≠ [])) W.g.tuple (Ev.r (ev_ifE (A := Eq (!(M'.map PyData.int).isEmpty || decide (last = 0))) (Wv.tv (wv_or (Tv.imp (Cv.tvb (cv_neD (dx := .list (M'.map .int)) (dy := .list []) (n := 1) hr (Ev.r (ev_nm 13)) (Ev.r (ev_lst evs_nil)) (by rw [shp]; exact shps_mapX (fun _ => rfl) _) rfl) rfl) fun z q => by rw [← q, eqv_nil']) fun _ => wv_or1 (Cv.tvb (cv_eq (ev_nm 12) ev_int) rfl))) (fun h => Ev.imp (ev_nm 13) fun d e => ?_) (fun h => Ev.imp (ev_lstS (evs_consS (ev_take 0 (fn_taken W) hr (ev_nm 1) p1 (by omega)) evs_nil) fun ds hds => ?_) fun d e => ?_)))) fun d e => ?_) ?_ (by rw [List.length_map]; exact Nat.lt_of_le_of_lt (by omega : _ ≤ 12) (by decide))
      · refine ⟨_, e.symm, M', rfl, fun x hx => ?_, (rngI_pw _ _).sublist hM', fun h0 e0 => ?_⟩
        · have := mem_rngI.mp (hM'.subset hx)
          omega
        · subst e0
          rw [Bool.or_eq_true, decide_eq_true_iff] at h
          rcases h with h | h
          · cases h
          · omega
      · obtain ⟨d, r, rfl, _, rfl⟩ := hds
        exact sz (by show 0 + 1 ≤ 1000000; decide)
      · obtain ⟨ds, rfl, d, r, rfl, ⟨k, rfl, k0, k1⟩, rfl⟩ := e
        refine ⟨_, rfl, [k], rfl, fun x hx => ?_, List.pairwise_singleton _ _, fun _ => List.cons_ne_nil _ _⟩
        rw [List.mem_singleton.mp hx]
        omega
      · obtain ⟨ds, rfl, g, rfl, h⟩ := e
        exact ⟨g, rfl, h⟩
      · rintro _ ⟨g, rfl, g1, g2, g3⟩
        have e1 : G.map dI ++ [dI g] = (G ++ [g]).map dI := by rw [List.map_append]; rfl
        rw [e1]
        refine ex_nil ⟨G ++ [g], .dat (.int last), .dat (.list (M'.map .int)), by rw [List.length_append, hGl]; rfl, ⟨fun x hx => ?_, fun x hx => ?_, fun j e hj h0 x hx => ?_⟩, rfl⟩
        · rcases List.mem_append.mp hx with z | z
          · exact hG.num x z
          · rw [List.mem_singleton.mp z]
            exact g1
        · rcases List.mem_append.mp hx with z | z
          · exact hG.up x z
          · rw [List.mem_singleton.mp z]
            exact g2
        · by_cases hjl : j < G.length
          · rw [List.getElem?_append_left hjl] at hx
            exact hG.some_ j e hj h0 x hx
          · rw [List.getElem?_append_right (by omega)] at hx
            have hj0 : j - G.length = 0 := by
              obtain ⟨h1, _⟩ := List.getElem?_eq_some_iff.mp hx
              rw [List.length_singleton] at h1
              omega
            rw [hj0] at hx
            cases hx
            have : j = i := by omega
            subst this
            rw [hi] at hj
            cases hj
            exact g3 h0
    rintro es' ⟨G, z12, z13, hGl, hG, rfl⟩
    -- book
    refine ex_forD [10] (L := rngI 0 n) (enc := .int) (fun i es => ∃ (B : List (Int × Int × Int × Int)) (z10 z11 z14 : Ent), (B.map key3).Sublist (((rngI 0 n).take i).flatMap (kL2 eds n)) ∧ (∀ b ∈ B, BkN eds b) ∧ es = [.row ns, .dat (.int p), .dat (.int n), .dat (.list (eds.map .int)), .dat (.int (3 - eds.sum)), z5, .dat (.list (M.map dT3)), .lst (G.map dI), .lst (B.map dT4), z9, z10, z11, z12, z13, z14]) .never rfl (by
      rw [← rngL0]
      exact wk_rng1 W.g.range (ev_nm 2) (by omega) (by omega)) ⟨[], _, _, _, .slnil, (fun b h => nomatch h), rfl⟩ ?_ ?_
    · rintro i wh es' hi ⟨B, z10, z11, z14, hB, hBn, rfl⟩
      have hw := mem_rngI.mp (List.mem_of_getElem? hi)
      have hat : atI (eds.map PyData.int) wh = some (.int (gI eds wh)) := atI_g hw.1 (by omega)
      have hgw := hg4 wh
      have hgw0 := hg0 wh
      refine ⟨_, bd_nm 10 hN, ?_⟩
      refine ex_forD [14] (L := rngI 1 (gI eds wh + 1)) (enc := .int) (fun j es => ∃ (B : List (Int × Int × Int × Int)) (z11 z14 : Ent), (B.map key3).Sublist (((rngI 0 n).take i).flatMap (kL2 eds n) ++ ((rngI 1 (gI eds wh + 1)).take j).flatMap (kL1 n wh)) ∧ (∀ b ∈ B, BkN eds b) ∧ es = [.row ns, .dat (.int p), .dat (.int n), .dat (.list (eds.map .int)), .dat (.int (3 - eds.sum)), z5, .dat (.list (M.map dT3)), .lst (G.map dI), .lst (B.map dT4), z9, .dat (.int wh), z11, z12, z13, z14]) .never rfl (by
        rw [← rngL_map]
        exact wk_rng2 W.g.range ev_int (ev_add (ev_ixL (ds := eds.map .int) (ev_nm 3).r (ev_nm 10) hat) ev_int) (by omega)) ⟨B, _, _, by rw [List.take_zero, List.flatMap_nil, List.append_nil]; exact hB, hBn, rfl⟩ ?_ ?_
      · rintro j ow es' hj ⟨B, z11, z14, hB, hBn, rfl⟩
        have ho := mem_rngI.mp (List.mem_of_getElem? hj)
        refine ⟨_, bd_nm 14 hN, ?_⟩
        refine ex_forD [11] (L := rngI 0 n) (enc := .int) (fun k es => ∃ (B : List (Int × Int × Int × Int)) (z11 : Ent), (B.map key3).Sublist (((rngI 0 n).take i).flatMap (kL2 eds n) ++ ((rngI 1 (gI eds wh + 1)).take j).flatMap (kL1 n wh) ++ ((rngI 0 n).take k).map fun x => (wh, ow, x)) ∧ (∀ b ∈ B, BkN eds b) ∧ es = [.row ns, .dat (.int p), .dat (.int n), .dat (.list (eds.map .int)), .dat (.int (3 - eds.sum)), z5, .dat (.list (M.map dT3)), .lst (G.map dI), .lst (B.map dT4), z9, .dat (.int wh), z11, z12, z13, .dat (.int ow)]) .never rfl (by
          rw [← rngL0]
          exact wk_rng1 W.g.range (ev_nm 2) (by omega) (by omega)) ⟨B, _, by rw [List.take_zero, List.map_nil, List.append_nil]; exact hB, hBn, rfl⟩ ?_ ?_
        · rintro k ot es' hk ⟨B, z11, hB, hBn, rfl⟩
          have ht := mem_rngI.mp (List.mem_of_getElem? hk)
          have hat2 : atI (eds.map PyData.int) ot = some (.int (gI eds ot)) := atI_g ht.1 (by omega)
          have hgo := hg4 ot
          have hgo0 := hg0 ot
          have hBl : B.length ≤ 1000 := by
            have h1 := hB.length_le
            have h2 : (((rngI 0 n).take i).flatMap (kL2 eds n)).length ≤ 3 * 12 := fm_len (by rw [List.length_take, rngI_len]; omega) fun w _ => fm_len (n := 4) (k := 3) (by have := hg4 w; rw [rngI_len]; omega) fun o _ => by
              unfold kL1
              rw [List.length_map, rngI_len]
              omega
            have h3 : (((rngI 1 (gI eds wh + 1)).take j).flatMap (kL1 n wh)).length ≤ 4 * 3 := fm_len (by rw [List.length_take, rngI_len]; omega) fun a ha => by
              unfold kL1
              rw [List.length_map, rngI_len]
              omega
            rw [List.length_append, List.length_append, List.length_map, List.length_map, List.length_take, rngI_len] at h1
            omega
          have hskip : (B.map key3).Sublist (((rngI 0 n).take i).flatMap (kL2 eds n) ++ ((rngI 1 (gI eds wh + 1)).take j).flatMap (kL1 n wh) ++ ((rngI 0 n).take (k + 1)).map fun x => (wh, ow, x)) := by
            rw [take_snoc hk, List.map_append, ← List.append_assoc]
            exact hB.trans (List.sublist_append_left _ _)
          refine ⟨_, bd_nm 11 hN, ?_⟩
          refine ex_if (A := fun z => z = true → ot ≠ wh ∧ 0 < gI eds ot) (Wv.tv (wv_andS (A := Eq (!decide (ot = wh))) (Cv.tvb (cv_ne (ev_nm 11) (ev_nm 10)) rfl) (fun h1 => wv_andS (A := Eq (decide (0 < gI eds ot))) (Cv.tvb (cv_gt (ev_ixL (ds := eds.map .int) (ev_nm 3).r (ev_nm 11) hat2) ev_int) rfl) (fun h2 => wv_and1 (Cv.tv (k := fun z => z = true → ot ≠ wh ∧ 0 < gI eds ot) (cv_I op_lt (ev_take 0 (fn_taken W) hr ev_int (by decide) (by decide)) ev_int fun x y q1 q2 => by
            obtain ⟨k, rfl, _⟩ := q1
            refine ⟨k, 3, rfl, q2.symm, _, rfl, fun _ => ⟨fun e => ?_, of_decide_eq_true h2⟩⟩
            rw [decide_eq_true e] at h1
            cases h1) (nobehind _ (by decide) (by decide)))) (fun _ z => nomatch z)) (fun _ z => nomatch z))) (fun q => ?_) (fun _ => ?_)
          · obtain ⟨q1, q2⟩ := q rfl
            refine ex_appS 8 (A := fun d => ∃ l : Int, d = dT4 (wh, ow, ot, l) ∧ 1 ≤ l ∧ l ≤ gI eds ot) rfl rfl (.inl rfl) (Ev.imp (ev_tupS (evs_consS (A := Eq (.int wh)) (ev_nm 10) (evs_consS (A := Eq (.int ow)) (ev_nm 14) (evs_consS (A := Eq (.int ot)) (ev_nm 11) (evs_consS (A := InI 1 (gI eds ot)) (ev_opI0 op_add ev_int (ev_take 0 (fn_taken W) hr (ev_ixL (ds := eds.map .int) (ev_nm 3).r (ev_nm 11) hat2) (by omega) (by omega)) fun x y q1 q2 => by
              obtain ⟨k, rfl, k0, k1⟩ := q2
              exact ⟨1, k, q1.symm, rfl, _, rfl, by omega, by omega⟩) evs_nil)))) fun ds hds => ?_) fun d e => ?_) ?_ (by rw [List.length_map]; exact Nat.lt_of_le_of_lt hBl (by decide))
            · obtain ⟨_, _, rfl, _, _, _, rfl, _, _, _, rfl, _, _, _, rfl, _, rfl⟩ := hds
              exact sz (by show 4 ≤ 1000000; decide)
            · obtain ⟨_, rfl, _, _, rfl, e1, _, _, rfl, e2, _, _, rfl, e3, _, _, rfl, ⟨l, rfl, l1, l2⟩, rfl⟩ := e
              subst e1 e2 e3
              exact ⟨l, rfl, l1, l2⟩
            · rintro _ ⟨l, rfl, l1, l2⟩
              have e1 : B.map dT4 ++ [dT4 (wh, ow, ot, l)] = (B ++ [(wh, ow, ot, l)]).map dT4 := by rw [List.map_append]; rfl
              rw [e1]
              refine ex_nil (ex_nil ⟨_, .dat (.int ot), ?_, fun b hb => ?_, rfl⟩)
              · rw [take_snoc hk, List.map_append, List.map_append, ← List.append_assoc]
                exact hB.append (List.Sublist.refl _)
              · rcases List.mem_append.mp hb with z | z
                · exact hBn b z
                · rw [List.mem_singleton.mp z]
                  exact ⟨hw.1, by show wh ≤ _; omega, ho.1, by show ow ≤ gI eds wh; omega, ht.1, by show ot ≤ _; omega, fun e => q1 e.symm, l1, l2⟩
          · exact ex_nil (ex_nil ⟨B, _, hskip, hBn, rfl⟩)
        · rintro es' ⟨B, z11, hB, hBn, rfl⟩
          rw [List.take_length] at hB
          refine ex_nil ⟨B, _, _, ?_, hBn, rfl⟩
          rw [take_snoc hj, fm_snoc, ← List.append_assoc]
          exact hB
      · rintro es' ⟨B, z11, z14, hB, hBn, rfl⟩
        rw [List.take_length] at hB
        refine ex_nil ⟨B, _, _, _, ?_, hBn, rfl⟩
        rw [take_snoc hi, fm_snoc]
        exact hB
    rintro es' ⟨B, z10, z11, z14, hB, hBn, rfl⟩
    rw [List.take_length] at hB
    have hB : (B.map key3).Sublist (kL eds n) := hB
    refine ex_ret (Ev.imp (ev_tup (evs_cons (ev_nm 1) (evs_cons (ev_tupL W.g.tuple (Ev.r (ev_nm 3))) (evs_cons (ev_tupL W.g.tuple (Ev.r (ev_nm 6))) (evs_cons (ev_tupL W.g.tuple (evr_lst 7)) (evs_cons (ev_tupL W.g.tuple (evr_lst 8)) evs_nil)))))) fun d e => ?_)
    rw [← e]
    refine hS ⟨p, eds, M, G, B⟩ ⟨⟨⟨p1, by show p ≤ 12; omega, ⟨by show 1 ≤ eds.length; omega, by show eds.length ≤ 12; omega, hnum, by show eds.sum ≤ 24; omega⟩, ⟨fun t ht => ?_, (tL_up p n).sublist hM⟩, ⟨hGl, hG.num, hG.up, hG.some_⟩, ⟨hBn, (kL_up eds n).sublist hB⟩⟩, ?_, ?_⟩, p4, by show eds.length ≤ 3; omega, hsum⟩
    · obtain ⟨h1, h2, h3, h4, h5, h6⟩ := tL_mem (hM.subset ht)
      refine ⟨h1, ?_, h3, ?_, h5, ?_⟩
      · show t.1 ≤ p - 1
        omega
      · show t.2.1 ≤ (eds.length : Int) - 1
        omega
      · show t.2.2 ≤ (eds.length : Int) - 1
        omega
    · have := hM.length_le
      have := tL_len p4 n3
      show M.length ≤ 1000
      omega
    · have := hB.length_le
      rw [List.length_map] at this
      have := kL_len n3 hg4
      show B.length ≤ 1000
      omega
end
end DL
end
section
set_option Elab.async false
set_option linter.all false
set_option autoImplicit false
set_option maxRecDepth 100000
set_option maxHeartbeats 2000000
/-! The law's own defs: alike. -/
namespace DL
open PySem PySem.Spec L2
open PyProof.Rows hiding St
open MA
def Alk : Nat → D → Prop
  | _, .none => True
  | _, .int _ => True
  | n + 1, .tuple ds => ds.length ≤ 1000 ∧ ∀ d ∈ ds, Alk n d
  | _, _ => False
theorem k_nl : kitB "NoneType" "list" = some false := by decide +kernel
theorem k_it : kitB "int" "tuple" = some false := by decide +kernel
theorem k_il : kitB "int" "list" = some false := by decide +kernel
theorem k_is : kitB "int" "str" = some false := by decide +kernel
theorem k_ns : kitB "NoneType" "str" = some false := by decide +kernel
theorem k_tl : kitB "tuple" "list" = some false := by decide +kernel
theorem boot_listA : bootBuiltins "list" = some (.type "list") := by decide +kernel
section
variable {T : Addr → Prop} {P : Program} {w : World} {K : PySem.W.Frag} {mg : Str → Option Value} {base : Heap}
open LHead
def spAl (n : Nat) : SpP := fun as S => ∃ d : D, as = [.dat d, .dat d] ∧ Alk n d ∧ S (.bool true)
theorem fn_alikeN (W : Wd T K mg base) (n : Nat) (hrec : ∀ m, n = m + 1 → Fn T P w K mg base n "_law_alike" (spAl m) []) : Fn T P w K mg base (n + 1) "_law_alike" (spAl n) [] := by
  have hN : (["_law_found", "_law_due", "_law_k"] : List Str).Nodup := by decide +kernel
  obtain ⟨fd, hm, F⟩ := (W.dv 45 _ rfl).ex
  refine Fn.make (N := ["_law_found", "_law_due", "_law_k"]) (ps := ["_law_found", "_law_due"]) F hm ⟨rfl, rfl, rfl, by decide +kernel, rfl, by decide +kernel, by decide +kernel⟩ ?_ (fun _ _ _ _ _ _ us hl => match us, hl with | [_, _], _ => rfl) ?_
  · rintro as S ⟨d, rfl, _⟩
    exact ⟨rfl, by simp [Ent.isOwn]⟩
  · rintro cdv A outer s H E hr as S ⟨d, rfl, hA, hS⟩
    cases d with
    | none =>
      refine ex_no _ (tv_b (ev_isi2 (d := .none) (z := false) (z' := false) W.g.isi W.g.tuple boot_tuple W.g.list boot_listA (ev_nm 1) k_nt k_nl)) rfl ?_
      refine ex_if (A := Eq (isNon .none || false)) (Wv.tv (wv_or (Cv.tvb (cv_isN (ev_nm 1)) rfl) fun _ => wv_or1 (tv_b (ev_isi (d := .none) (z := false) W.g.isi W.g.str boot_str' (ev_nm 1) k_ns)))) (fun _ => ?_) (fun z => nomatch z)
      refine ex_ret (Ev.imp (ev_and (x := PyData.eqv .none .none) (y := PyData.eqv (.bool false) (.bool false)) (Cv.evb (cv_eqD (dx := .none) (dy := .none) (n := 1) hr (Ev.r (ev_nm 0)) (Ev.r (ev_nm 1)) rfl rfl) rfl) fun _ => ev_one (Cv.evb (cv_eqD (dx := .bool false) (dy := .bool false) (n := 1) hr (Ev.r (ev_isi (d := .none) (z := false) W.g.isi W.g.str boot_str' (ev_nm 0) k_ns)) (Ev.r (ev_isi (d := .none) (z := false) W.g.isi W.g.str boot_str' (ev_nm 1) k_ns)) rfl rfl) rfl)) fun d e => ?_)
      rw [← e]
      exact hS
    | int i =>
      refine ex_no _ (tv_b (ev_isi2 (d := .int i) (z := false) (z' := false) W.g.isi W.g.tuple boot_tuple W.g.list boot_listA (ev_nm 1) k_it k_il)) rfl ?_
      refine ex_no _ (Wv.tv (wv_or (x := isNon (.int i)) (Cv.tvb (cv_isN (ev_nm 1)) rfl) fun _ => wv_or1 (tv_b (ev_isi (d := .int i) (z := false) W.g.isi W.g.str boot_str' (ev_nm 1) k_is)))) rfl ?_
      refine ex_ret (Ev.imp (ev_and (ev_isi (d := .int i) (z := true) W.g.isi W.g.int boot_int' (ev_nm 0) k_ii) fun _ => ev_and (x := PyData.eqv (.bool false) (.bool false)) (y := decide (i = i)) (Cv.evb (cv_eqD (dx := .bool false) (dy := .bool false) (n := 1) hr (Ev.r (ev_isi (d := .int i) (z := false) W.g.isi W.g.bool boot_bool' (ev_nm 0) k_ib)) (Ev.r (ev_isi (d := .int i) (z := false) W.g.isi W.g.bool boot_bool' (ev_nm 1) k_ib)) rfl rfl) rfl) fun _ => ev_one (Cv.evb (cv_eq (ev_nm 0) (ev_nm 1)) rfl)) fun d e => ?_)
      rw [← e, decide_eq_true rfl]
      exact hS
    | tuple ds =>
      cases n with
      | zero => exact hA.elim
      | succ m =>
        obtain ⟨hl, hds⟩ := hA
        refine ex_if (A := Eq (true || false)) (tv_b (ev_isi2 (d := .tuple ds) (z := true) (z' := false) W.g.isi W.g.tuple boot_tuple W.g.list boot_listA (ev_nm 1) k_tt k_tl)) (fun _ => ?_) (fun z => nomatch z)
        refine ex_no _ (Wv.tv (wv_or (x := !(true || false)) (y := !PyData.eqv (.bool false) (.bool false)) (tv_notb (tv_b (ev_isi2 (d := .tuple ds) (z := true) (z' := false) W.g.isi W.g.tuple boot_tuple W.g.list boot_listA (ev_nm 0) k_tt k_tl))) fun _ => wv_or1 (Cv.tvb (cv_neD (dx := .bool false) (dy := .bool false) (n := 1) hr (Ev.r (ev_isi (d := .tuple ds) (z := false) W.g.isi W.g.list boot_listA (ev_nm 0) k_tl)) (Ev.r (ev_isi (d := .tuple ds) (z := false) W.g.isi W.g.list boot_listA (ev_nm 1) k_tl)) rfl rfl) rfl))) rfl ?_
        refine ex_no _ (Cv.tvb (cv_ne (ev_lenT W.g.len (ev_nm 0).r) (ev_lenT W.g.len (ev_nm 1).r)) rfl) (by rw [decide_eq_true rfl]; rfl) ?_
        refine ex_ret (Ev.imp (Cv.evb (cv_eqD (dx := .list (((rngI 0 (ds.length : Int)).filter fun _ => false).map .int)) (dy := .list []) (n := 1) hr (Ev.r (ev_lc (own := [("_law_k", 2)]) (L := rngI 0 (ds.length : Int)) (enc := .int) (c := fun _ => false) (f := .int) rfl hN (blkOk_by (by kernel_rfl)) (by
          rw [← rngL0]
          exact wk_rng1 W.g.range (ev_lenT W.g.len (ev_nm 1).r) (by omega) (by omega)) (sz (by rw [rngI_len]; omega)) (fun k hk => ⟨[.dat (.tuple ds), .dat (.tuple ds), .dat (.int k)], fun s H c' cl fp => ⟨bd_nm 2 hN, tvs_one ?_, fun z => nomatch z⟩⟩))) (Ev.r (ev_lst evs_nil)) ?_ rfl) rfl) fun d e => ?_)
        · have hk' := mem_rngI.mp hk
          have hat : atI ds k = some (ds.getD k.toNat .none) := atI_at hk'.1 hk'.2
          have hmem : ds.getD k.toNat .none ∈ ds := by
            rw [List.getD_eq_getElem?_getD, List.getElem?_eq_getElem (by omega)]
            exact List.getElem_mem _
          exact Tv.imp (tv_notb (tv_b (ev_callD (hrec m rfl) (hr.mono (by omega)) (ar_cons (ev_ixT (ev_nm 0).r (ev_nm 2) hat) (ar_cons (ev_ixT (ev_nm 1).r (ev_nm 2) hat) ar_nil)) ⟨_, rfl, hds _ hmem, rfl⟩))) fun z e => e
        · rw [shp]
          exact shps_mapX (fun _ => rfl) _
        · have h0 : (rngI 0 (ds.length : Int)).filter (fun _ => false) = [] := List.filter_eq_nil_iff.mpr fun _ _ => Bool.false_ne_true
          rw [← e, eqv_nil', h0]
          exact hS
    | bool b => cases n <;> exact hA.elim
    | str b => cases n <;> exact hA.elim
    | list b => cases n <;> exact hA.elim
    | dict b => cases n <;> exact hA.elim
theorem fn_alike (W : Wd T K mg base) : ∀ n, Fn T P w K mg base (n + 1) "_law_alike" (spAl n) []
  | 0 => fn_alikeN W 0 fun m e => nomatch e
  | n + 1 => fn_alikeN W (n + 1) fun m e => by
    cases e
    exact fn_alike W n
end
end DL
end
section
set_option Elab.async false
set_option linter.all false
set_option autoImplicit false
set_option maxRecDepth 100000
set_option maxHeartbeats 2000000
/-! list(zip(t, u)): the list filled. -/
namespace PySem
theorem nolen_zip : typeLookup (.type "zip") "__len__" = pure none := by rw [typeLookup_type, builtinLookup_eq_fast]; kernel_rfl
theorem nohint_zip : typeLookup (.type "zip") "__length_hint__" = pure none := by rw [typeLookup_type, builtinLookup_eq_fast]; kernel_rfl
section
variable {prog : Program} {w : World} {A : Around} {E : Value → Shared → Prop} {s : Shared} {z TI TO i1 i2 : Addr} {fp1 fp2 : List Addr} {n1 n2 i : Nat} {P1 P2 : Nat → Value → Prop} {St1 St2 : Nat → Heap → Prop}
theorem pyNext_zip_item {Q : Option Value → Shared → Prop} (S : ZipSep2 z TI TO i1 i2 fp1 fp2) (D1 : Draws prog w A.in1 i1 fp1 n1 P1 St1) (D2 : Draws prog w A.in1 i2 fp2 n2 P2 St2) (hst : ZSt z TI TO i1 i2 St1 St2 i s.heap) (hlt : i < min n1 n2)
    (hQ : ∀ x1 x2 h' tk, P1 i x1 → P2 i x2 → ZSt z TI TO i1 i2 St1 St2 (i + 1) h' → IsTupOf2 h' s.heap.objs.size x1 x2 → h'.objs.size = s.heap.objs.size + 1 →
      (∀ c o, c ≠ z → c ≠ TO → c ≠ i1 → c ≠ i2 → s.heap.get? c = some o → h'.get? c = some o) → Q (some (.ref s.heap.objs.size)) { s with heap := h', toks := tk }) :
    wpAny (model prog w) A (pyNext (.ref z)) Q E s := by
  obtain ⟨hz, hTI, hTO, st1, st2⟩ := hst
  have hTy : s.TypeIs (.ref z) "zip" := by
    obtain ⟨_, _, _, e⟩ := hz
    exact ⟨_, e, rfl⟩
  unfold pyNext
  exact wpAny_bind (wpAny_attempt (wpAny_callSpecial?_slot (name := Str.ofString "__next__") hTy F.slot_zip_next
    (wpAny_call_entry F.slot_zip_next hTy F.entry_zip_next
      (zipA_item S D1 D2 hz hTI hTO st1 st2 (by omega) (by omega) fun x1 x2 h' tk y1 y2 c1 c2 d1 d2 c5 c6 c7 => wpAny_pure (hQ x1 x2 h' tk y1 y2 ⟨c1, c7 _ _ S.TIz S.TITO S.TIi1 S.TIi2 hTI, c2, d1, d2⟩ c5 c6 c7)) (F.args_zip_next_1 _))))
theorem pyNext_zip_end {Q : Option Value → Shared → Prop} (S : ZipSep2 z TI TO i1 i2 fp1 fp2) (D1 : Draws prog w A.in1 i1 fp1 n1 P1 St1) (D2 : Draws prog w A.in1 i2 fp2 n2 P2 St2) (hst : ZSt z TI TO i1 i2 St1 St2 (min n1 n2) s.heap)
    (hQ : ∀ h' tk, (∀ c o, c ≠ z → c ≠ TO → c ≠ i1 → c ≠ i2 → s.heap.get? c = some o → h'.get? c = some o) → Q none { s with heap := h', toks := tk }) : wpAny (model prog w) A (pyNext (.ref z)) Q E s := by
  obtain ⟨hz, hTI, hTO, st1, st2⟩ := hst
  have hTy : s.TypeIs (.ref z) "zip" := by
    obtain ⟨_, _, _, e⟩ := hz
    exact ⟨_, e, rfl⟩
  unfold pyNext
  refine wpAny_bind (wpAny_attempt (wpAny_callSpecial?_slot (name := Str.ofString "__next__") hTy F.slot_zip_next
    (wpAny_call_entry F.slot_zip_next hTy F.entry_zip_next
      (zipA_end S D1 D2 hz hTI hTO st1 st2 (by omega) (by omega) (by omega) fun h' tk e hk he => ?_) (F.args_zip_next_1 _))))
  obtain ⟨o, ho, hc⟩ := he
  refine wpAny_bind (wpAny_isInstance (T := "StopIteration") (b := true) ⟨o, ho, hc⟩ isSubtype_stop ?_)
  exact wpAny_pure (hQ _ _ hk)
/-- the tuples made so far, above L -/
structure ZG (P1 P2 : Nat → Value → Prop) (L : Addr) (h : Heap) (ts : List Addr) : Prop where
  up : ts.Pairwise (· < ·)
  gt : ∀ t ∈ ts, L < t
  at_ : ∀ (j : Nat) (t : Addr), ts[j]? = some t → ∃ x y, P1 j x ∧ P2 j y ∧ IsTupOf2 h t x y
theorem zl_loop {L : Addr} {R : Result → Shared → Prop} (S : ZipSep2 z TI TO i1 i2 fp1 fp2) (D1 : Draws prog w A.in1.in1 i1 fp1 n1 P1 St1) (D2 : Draws prog w A.in1.in1 i2 fp2 n2 P2 St2) (hL : ∀ b ∈ z :: TI :: TO :: (fp1 ++ fp2), b < L) (hn : min n1 n2 ≤ sizeLine) (res : Value) {u : Heap}
    (hR : ∀ h' tk acc c ts, (∀ b o, b < L → b ∉ [z, TO, i1, i2] → u.get? b = some o → h'.get? b = some o) → h'.get? L = some { cls := .type "list", dict := none, data := .seq acc c, slots := #[] } → ts.length = min n1 n2 → ZG P1 P2 L h' ts →
      acc.toList = ts.map Value.ref → R (.ok (.ret res)) { s with heap := h', toks := tk }) :
    ∀ (k i : Nat) (h : Heap) (tk c : Nat) (acc : Array Value) (ts : List Addr), min n1 n2 - i = k → i ≤ min n1 n2 → ZSt z TI TO i1 i2 St1 St2 i h → (∀ b o, b < L → b ∉ [z, TO, i1, i2] → u.get? b = some o → h.get? b = some o) →
      h.get? L = some { cls := .type "list", dict := none, data := .seq acc c, slots := #[] } → acc.toList = ts.map Value.ref → ts.length = i → ZG P1 P2 L h ts →
      codeAny (model prog w) A (.builtin "list.extend.loop" ⟨[.ref L, .ref z, res], []⟩) R { s with heap := h, toks := tk } := by
  have lz : L ≠ z := Nat.ne_of_gt (hL z (by simp))
  have lT : L ≠ TO := Nat.ne_of_gt (hL TO (by simp))
  have l1 : L ≠ i1 := Nat.ne_of_gt (hL i1 (by simp [S.mem1]))
  have l2 : L ≠ i2 := Nat.ne_of_gt (hL i2 (by simp [S.mem2]))
  have gtk : ∀ {t : Addr}, L < t → t ≠ z ∧ t ≠ TO ∧ t ≠ i1 ∧ t ≠ i2 := fun {t} ht => by
    have q1 := hL z (by simp)
    have q2 := hL TO (by simp)
    have q3 := hL i1 (by simp [S.mem1])
    have q4 := hL i2 (by simp [S.mem2])
    exact ⟨Nat.ne_of_gt (Nat.lt_trans q1 ht), Nat.ne_of_gt (Nat.lt_trans q2 ht), Nat.ne_of_gt (Nat.lt_trans q3 ht), Nat.ne_of_gt (Nat.lt_trans q4 ht)⟩
  intro k
  induction k with
  | zero =>
    intro i h tk c acc ts hk hi hst hkeep hLo hacc hal hG
    have hin : i = min n1 n2 := by omega
    subst hin
    refine codeAny_builtin PySem.F.entry_extend_loop ?_
    rw [Around.under_plainId PySem.F.plain_extend_loop _]
    show wpAny _ A.in1 (pyNext (.ref z) >>= _) _ _ _
    refine wpAny_bind (pyNext_zip_end (s := { s with heap := h, toks := tk }) (A := A.in1) S D1 D2 hst fun h' tk' he => ?_)
    refine wpAny_pure (hR h' tk' acc c ts (fun b o h1 h2 e => he b o (fun q => h2 (by simp [q])) (fun q => h2 (by simp [q])) (fun q => h2 (by simp [q])) (fun q => h2 (by simp [q])) (hkeep b o h1 h2 e)) (he L _ lz lT l1 l2 hLo) hal ⟨hG.up, hG.gt, fun j t hj => ?_⟩ hacc)
    obtain ⟨x, y, q1, q2, q3⟩ := hG.at_ j t hj
    obtain ⟨g1, g2, g3, g4⟩ := gtk (hG.gt t (List.mem_of_getElem? hj))
    exact ⟨x, y, q1, q2, he t _ g1 g2 g3 g4 q3⟩
  | succ k ih =>
    intro i h tk c acc ts hk hi hst hkeep hLo hacc hal hG
    have hlt : i < min n1 n2 := by omega
    have hsz : acc.size = i := by rw [← Array.length_toList, hacc, List.length_map, hal]
    have hLs : L < h.objs.size := Heap.lt_size hLo
    refine codeAny_builtin PySem.F.entry_extend_loop ?_
    rw [Around.under_plainId PySem.F.plain_extend_loop _]
    show wpAny _ A.in1 (pyNext (.ref z) >>= _) _ _ _
    refine wpAny_bind (pyNext_zip_item (s := { s with heap := h, toks := tk }) (A := A.in1) S D1 D2 hst hlt fun x y h' tk' p1 p2 hst' ht hz' hkp => ?_)
    dsimp only at ht hz' hkp ⊢
    have hLo' := hkp L _ lz lT l1 l2 hLo
    have up : ∀ b o, b ≠ L → h'.get? b = some o → (h'.update L (Obj.mapSeq (·.push (Value.ref h.objs.size)))).get? b = some o := fun b o hb e => (Heap.get?_update_other _ _ (Ne.symm hb)).trans e
    show wpAny _ A.in1 (updateSeq L (·.push (Value.ref h.objs.size)) >>= _) _ _ _
    refine wpAny_bind ?_
    refine wpAny_updateSeq hLo' rfl (wpAny_pure ⟨plainId_quiet PySem.F.plain_extend_loop _, ih (i + 1) _ tk' _ (acc.push (Value.ref h.objs.size)) (ts ++ [h.objs.size]) (by omega) hlt (hst'.at_ D1 D2 fun b hb o e => up b o (Nat.ne_of_lt (hL b hb)) e)
      (fun b o h1 h2 e => up b o (Nat.ne_of_lt h1) (hkp b o (fun q => h2 (by simp [q])) (fun q => h2 (by simp [q])) (fun q => h2 (by simp [q])) (fun q => h2 (by simp [q])) (hkeep b o h1 h2 e))) (Heap.get?_update_self _ hLo' rfl) (by rw [Array.toList_push, hacc, List.map_append]; rfl) (by rw [List.length_append, hal]; rfl) ⟨?_, ?_, ?_⟩⟩) (by rw [hsz]; omega) (by show (acc.push (Value.ref h.objs.size)).size ≤ sizeLine + 1; rw [Array.size_push, hsz]; omega)
    · refine List.pairwise_append.mpr ⟨hG.up, List.pairwise_singleton _ _, fun a ha b hb => ?_⟩
      rw [List.mem_singleton.mp hb]
      obtain ⟨j, hj⟩ := List.mem_iff_getElem?.mp ha
      obtain ⟨_, _, _, _, e⟩ := hG.at_ j a hj
      exact Heap.lt_size e
    · intro t ht'
      rcases List.mem_append.mp ht' with q | q
      · exact hG.gt t q
      · rw [List.mem_singleton.mp q]; exact hLs
    · intro j t hj
      rcases Nat.lt_trichotomy j ts.length with q | q | q
      · rw [List.getElem?_append_left q] at hj
        obtain ⟨x', y', e1, e2, e3⟩ := hG.at_ j t hj
        have hb := hG.gt t (List.mem_of_getElem? hj)
        obtain ⟨g1, g2, g3, g4⟩ := gtk hb
        exact ⟨x', y', e1, e2, up t _ (Nat.ne_of_gt hb) (hkp t _ g1 g2 g3 g4 e3)⟩
      · subst q
        have hb : h.objs.size = t := by simpa using hj
        subst hb
        rw [hal]
        exact ⟨x, y, p1, p2, up _ _ (Nat.ne_of_gt hLs) ht⟩
      · have hnone : (ts ++ [h.objs.size])[j]? = none := List.getElem?_eq_none (by rw [List.length_append, List.length_singleton]; omega)
        rw [hnone] at hj; cases hj
theorem zl_call {Q : Value → Shared → Prop} (S : ZipSep2 z TI TO i1 i2 fp1 fp2) (D1 : Draws prog w A.in1.in1.in1 i1 fp1 n1 P1 St1) (D2 : Draws prog w A.in1.in1.in1 i2 fp2 n2 P2 St2) (hz : IsZip s.heap z TI TO .none) (hst : ZSt z TI TO i1 i2 St1 St2 0 s.heap) (hL : ∀ b ∈ z :: TI :: TO :: (fp1 ++ fp2), b < s.heap.objs.size) (hn : min n1 n2 ≤ sizeLine)
    (hQ : ∀ h' tk acc c ts, (∀ b o, b ∉ [z, TO, i1, i2] → s.heap.get? b = some o → h'.get? b = some o) → h'.get? s.heap.objs.size = some { cls := .type "list", dict := none, data := .seq acc c, slots := #[] } → ts.length = min n1 n2 → ZG P1 P2 s.heap.objs.size h' ts →
      acc.toList = ts.map Value.ref → Q (.ref s.heap.objs.size) { s with heap := h', toks := tk }) :
    wpAny (model prog w) A (call (.type "list") [.ref z]) Q E s := by
  refine callType_codes (Q₁ := fun obj s₁ => obj = .ref s.heap.objs.size ∧ s₁ = { s with heap := s.heap.push { cls := .type "list", data := .seq #[] } }) PySem.F.called_list (PySem.F.typeCall_list_1 _) PySem.F.entry_list_init
    (code_list_new _ ⟨rfl, rfl⟩) fun obj s₁ h₁ => ?_
  obtain ⟨rfl, rfl⟩ := h₁
  have hS : (s.heap.push { cls := .type "list", data := .seq #[] }).get? s.heap.objs.size = some { cls := .type "list", data := .seq #[] } := Heap.get?_push_size _ rfl
  have hzl : s.heap.objs.size ≠ z := Nat.ne_of_gt (hL z (by simp))
  refine ⟨⟨_, hS, rfl⟩, PySem.F.args_list_init_2 _ _, ?_⟩
  show wpAny _ A.in1.in1 (do let old ← Builtin.List.listItems (.ref s.heap.objs.size); Builtin.List.listUpdate (.ref s.heap.objs.size) (fun _ => #[]); letGo old.toList.reverse; Builtin.List.listExtendWith (.ref s.heap.objs.size) (.ref z) .none) _ _ _
  refine wpAny_bind ?_
  unfold Builtin.List.listItems
  refine wpAny_bind (wpAny_seqItems hS rfl (wpAny_pure ?_))
  show wpAny _ A.in1.in1 (updateSeq s.heap.objs.size (fun _ => #[]) >>= fun _ => letGo (#[] : Array Value).toList.reverse >>= fun _ => Builtin.List.listExtendWith (.ref s.heap.objs.size) (.ref z) .none) _ _ _
  refine wpAny_bind (wpAny_updateSeq hS rfl ?_)
  have hS2 := Heap.get?_update_self (Obj.mapSeq (fun _ => (#[] : Array Value))) hS rfl
  refine wpAny_bind (wpAny_letGo ?_)
  unfold Builtin.List.listExtendWith
  have up : ∀ (h : Heap) (f : Obj → Obj), (∀ b o, s.heap.get? b = some o → h.get? b = some o) → ∀ b o, s.heap.get? b = some o → (h.update s.heap.objs.size f).get? b = some o := fun h f q b o e =>
    (Heap.get?_update_other _ _ (Ne.symm (Nat.ne_of_lt (Heap.lt_size e)))).trans (q b o e)
  have k1 : ∀ b o, s.heap.get? b = some o → (s.heap.push { cls := .type "list", data := .seq #[] }).get? b = some o := fun b o e => Heap.get?_push_of_some _ e
  have k2 := up _ (Obj.mapSeq (fun _ => (#[] : Array Value))) k1
  refine wpAny_bind (wpAny_typeOf (T := "zip") (s := { s with heap := _ }) ⟨_, k2 _ _ hz, rfl⟩ ?_)
  have h1 : Builtin.List.listSameRef (.ref s.heap.objs.size) (.ref z) = false := by simp [Builtin.List.listSameRef, hzl]
  have h2 : (Value.type "zip" == Value.type "list") = false := by decide
  have h3 : (Value.type "zip" == Value.type "tuple") = false := by decide
  simp only [h1, h2, h3, Bool.or_false, Bool.false_eq_true, if_false]
  refine wpAny_bind (wpAny_pyIter_zip (s := { s with heap := _ }) (k2 _ _ hz) ?_)
  refine wpAny_bind (wpAny_holding ?_)
  unfold Builtin.List.listLengthHint
  refine wpAny_bind (wpAny_specialOf (T := "zip") (s := { s with heap := _ }) ⟨_, k2 _ _ hz, rfl⟩ nolen_zip ?_)
  show wpAny _ A.in1.in1 (specialOf (Value.ref z) (Str.ofString "__length_hint__") >>= _) _ _ _
  refine wpAny_bind (wpAny_specialOf (T := "zip") (s := { s with heap := _ }) ⟨_, k2 _ _ hz, rfl⟩ nohint_zip ?_)
  refine wpAny_pure ?_
  show wpAny _ A.in1.in1 (rule "list.extend.makes-room" >>= fun _ => Builtin.List.listTouch (.ref s.heap.objs.size) >>= fun _ =>
    again (.builtin "list.extend.loop" ⟨[.ref s.heap.objs.size, .ref z, .none], []⟩)) _ _ _
  refine wpAny_bind (wpAny_rule ?_)
  refine wpAny_bind ?_
  show wpAny _ A.in1.in1 (updateSeq s.heap.objs.size (·.push .none) >>= fun _ => updateSeq s.heap.objs.size (·.pop)) _ _ _
  refine wpAny_bind (wpAny_updateSeq hS2 rfl ?_)
  have hS3 := Heap.get?_update_self (Obj.mapSeq (·.push Value.none)) hS2 rfl
  refine wpAny_updateSeq (hz := by seq_fits) hS3 rfl ?_
  have hS4 := Heap.get?_update_self (Obj.mapSeq (·.pop)) hS3 rfl
  have k4 := up _ (Obj.mapSeq (·.pop)) (up _ (Obj.mapSeq (·.push Value.none)) k2)
  refine wpAny_pure ⟨plainId_quiet F.plain_extend_loop _, ?_⟩
  exact zl_loop (s := s) (L := s.heap.objs.size) (u := s.heap) S D1 D2 hL hn .none (fun h' tk acc c ts q1 q2 q3 q4 q5 => ⟨rfl, hQ h' tk acc c ts (fun b o hb e => q1 b o (Heap.lt_size e) hb e) q2 q3 q4 q5⟩)
    (min n1 n2) 0 _ s.toks _ #[] [] (Nat.sub_zero _) (Nat.zero_le _) (hst.at_ D1 D2 fun b _ o e => k4 b o e) (fun b o _ _ e => k4 b o e) hS4 rfl rfl ⟨List.Pairwise.nil, (fun t ht => nomatch ht), fun j t hj => nomatch hj⟩
end
end PySem
end
section
set_option Elab.async false
set_option linter.all false
set_option autoImplicit false
set_option maxRecDepth 100000
set_option maxHeartbeats 2000000
/-! list(zip(t, u)) of plain data; all(..), any(..) over a list of pairs. -/
namespace DL
open PySem PySem.Spec L2
open PyProof.Rows hiding St
/-- the pairs tracked at their places -/
def putP : Hp → List Addr → List (V × V) → Hp
  | H, a :: as, p :: ps => putP (upd H a (.tup [p.1, p.2])) as ps
  | H, _, _ => H
theorem putP_off {b : Addr} : ∀ (as : List Addr) (ps : List (V × V)) (H : Hp), b ∉ as → putP H as ps b = H b
  | [], _, _, _ => rfl
  | _ :: _, [], _, _ => rfl
  | a :: as, p :: ps, H, h => by
    show putP (upd H a (.tup [p.1, p.2])) as ps b = H b
    rw [putP_off as ps _ (fun z => h (List.mem_cons_of_mem _ z)), upd_ne (fun z => h (by rw [z]; exact List.mem_cons_self))]
theorem putP_at : ∀ (as : List Addr) (ps : List (V × V)) (H : Hp) (j : Nat) (t : Addr) (p : V × V), as.Nodup → as[j]? = some t → ps[j]? = some p → putP H as ps t = some (.tup [p.1, p.2])
  | a :: as, q :: ps, H, 0, t, p, hn, h1, h2 => by
    cases Option.some.inj h1
    cases Option.some.inj h2
    show putP (upd H a (.tup [q.1, q.2])) as ps a = some (.tup [q.1, q.2])
    rw [putP_off as ps _ (List.nodup_cons.mp hn).1, upd_same]
  | a :: as, q :: ps, H, j + 1, t, p, hn, h1, h2 => putP_at as ps (upd H a (.tup [q.1, q.2])) j t p (List.nodup_cons.mp hn).2 h1 h2
theorem arefs_vals : ∀ as : List Addr, Vals (as.map V.ref) (as.map Value.ref)
  | [] => .nil
  | _ :: as => .cons rfl (arefs_vals as)
theorem pairs_laid {X : Cx} {pins : List (Addr × Obj)} {σ : St} {H : Hp} {s : Shared} {h' : Heap} {tk c : Nat} {L : Addr} {ps : List (V × V)} {acc : Array Value} {as : List Addr} (I : Inv X pins σ H s) (hz : as.length ≤ sizeLine) (hl : as.length = ps.length)
    (hk : ∀ b o, s.heap.get? b = some o → h'.get? b = some o) (hL : s.heap.objs.size ≤ L) (hS : h'.get? L = some { cls := .type "list", dict := none, data := .seq acc c, slots := #[] }) (hup : as.Pairwise (· < ·)) (hgt : ∀ a ∈ as, L < a)
    (hat : ∀ (j : Nat) (a : Addr), as[j]? = some a → ∃ p u v, ps[j]? = some p ∧ RelV p.1 u ∧ RelV p.2 v ∧ IsTupOf2 h' a u v) (hacc : acc.toList = as.map Value.ref) :
    ∃ H' : Hp, Same H H' ∧ H L = none ∧ (∀ t ∈ as, H t = none) ∧ H' L = some (.lst (as.map V.ref)) ∧ (∀ (j : Nat) (t : Addr) (p : V × V), as[j]? = some t → ps[j]? = some p → H' t = some (.tup [p.1, p.2])) ∧ Inv X pins σ H' { s with heap := h', toks := tk } := by
  have hSn : L ∉ as := fun z => Nat.lt_irrefl _ (hgt _ z)
  have nd : as.Nodup := List.Pairwise.imp (fun {a b} (h : a < b) => Nat.ne_of_lt h) hup
  have new : ∀ t ∈ as, H t = none := fun t ht => I.hok.fresh (Nat.le_trans hL (Nat.le_of_lt (hgt t ht)))
  have newS : H L = none := I.hok.fresh hL
  have off : ∀ b, b ∉ as → b ≠ L → putP (upd H L (.lst (as.map V.ref))) as ps b = H b := fun b h1 h2 => by rw [putP_off as ps _ h1, upd_ne h2]
  have low : ∀ b o, s.heap.get? b = some o → b ∉ as ∧ b ≠ L := fun b o e => ⟨fun z => absurd (Nat.lt_of_lt_of_le (Heap.lt_size e) hL) (Nat.not_lt.mpr (Nat.le_of_lt (hgt b z))), Nat.ne_of_lt (Nat.lt_of_lt_of_le (Heap.lt_size e) hL)⟩
  have kp : ∀ b u, H b = some u → (putP (upd H L (.lst (as.map V.ref))) as ps) b = some u := fun b u e => by
    rw [off b (fun z => by rw [new b z] at e; cases e) (fun z => by rw [z, newS] at e; cases e)]
    exact e
  have eS : putP (upd H L (.lst (as.map V.ref))) as ps L = some (.lst (as.map V.ref)) := by rw [putP_off as ps _ hSn, upd_same]
  refine ⟨putP (upd H L (.lst (as.map V.ref))) as ps, kp, newS, new, eS, fun j t p h1 h2 => putP_at as ps _ j t p nd h1 h2, ?_⟩
  refine I.call' (ch := []) rfl ⟨fun b o q _ _ _ => hk b o q, fun b o q _ _ _ => ⟨o.slots, hk b o q⟩, fun b o q n _ => ?_, fun b o q _ => ⟨o, hk b o q⟩, fun b xs q => kp b _ q, fun b o u q => kp b _ q, fun b ps q => ⟨#[], by rw [kp b _ q]; simp⟩⟩ (fun b u q => ?_) I.bare fun b z => by simp at z
  · obtain ⟨z1, z2⟩ := low b o q
    rw [off b z1 z2]
    exact n
  · by_cases hb : b ∈ as
    · obtain ⟨j, hj⟩ := List.mem_iff_getElem?.mp hb
      obtain ⟨p, u1, v1, e1, r1, r2, e2⟩ := hat j b hj
      rw [putP_at as ps _ j b p nd hj e1] at q
      cases q
      exact ⟨by show 2 ≤ sizeLine; decide, [u1, v1], vals2 r1 r2, ⟨_, e2, rfl, _, rfl⟩⟩
    · by_cases hb2 : b = L
      · rw [hb2] at q ⊢
        rw [eS] at q
        cases q
        refine ⟨by rw [List.length_map]; exact hz, acc.toList, c, by rw [hacc]; exact arefs_vals as, ?_⟩
        rw [Array.toArray_toList]
        exact hS
      · rw [off b hb hb2] at q
        exact (I.hok b u q).stay (fun d v _ y => hk d v y) (fun d y => kp d _ y) fun d xs y => kp d _ y
theorem rps_of {K : PySem.W.Frag} {O : Addr → Prop} {H : Hp} : ∀ {xs : List V} {ds : List D}, xs.length = ds.length → (∀ (j : Nat) (x : V) (d : D), xs[j]? = some x → ds[j]? = some d → Rp K O H x d) → Rps K O H xs ds
  | [], [], _, _ => .nil
  | _ :: _, [], h, _ => by cases h
  | [], _ :: _, h, _ => by cases h
  | x :: xs, d :: ds, h, r => .cons (r 0 x d rfl rfl) (rps_of (Nat.succ.inj h) fun j y e h1 h2 => r (j + 1) y e h1 h2)
section
variable {T : Addr → Prop} {X : Cx} {es : List Ent} {e e2 : Expr} {p p' pos pos' : Pos} {ds fs : List D}
theorem ev_listZip (b1 b2 : Bool) (hc : X.calm = true) (hml : X.mg "list" = none) (hm : X.mg "zip" = none) (ha : Ev T X es e (Eq (seqD b1 ds))) (hb : Ev T X es e2 (Eq (seqD b2 fs))) (hz : min ds.length fs.length ≤ sizeLine) (hgl : Gl X "list" := by rfl) (hg : Gl X "zip" := by rfl)
    (hs : starEach [e, e2] X.env = (false, eval e X.env) :: starEach [e2] X.env := by rfl) (hs2 : starEach [e2] X.env = (false, eval e2 X.env) :: starEach [] X.env := by rfl) (hpl : (backTo pos' (starEach [e2] X.env)).any (·.1) = false := by rfl)
    (hsz : starEach [.Call (.Name "zip" p') [e, e2] [] pos'] X.env = [(false, eval (.Call (.Name "zip" p') [e, e2] [] pos') X.env)] := by rfl) :
    Ev T X es (.Call (.Name "list" p) [.Call (.Name "zip" p') [e, e2] [] pos'] [] pos) (Eq (.list (zipD2 ds fs))) := fun pr H σ Q g o k pins s I => by
  refine Call_ (ld_blt I hgl hml boot_listA (PyProof.Rows.callWith_type1 ?_ hsz rfl))
  rw [hsz]
  show wpAny _ _ (spliced ((false, eval (.Call (.Name "zip" p') [e, e2] [] pos') X.env) :: [])) _ _ s
  refine Calls.spliced_cons (Call_ (ld_blt I hg hm PyProof.Rows.boot_zip (PyProof.Rows.callWith_type1 (thn ((pa_cons pe_w (pa_cons pe_w pa_nil hs2) hs).run pos' pins s σ H (fun vs H1 => Gr0 pr H H1 ∧ ∃ x y, vs = [x, y] ∧ Rp X.K pr.own H1 x (seqD b1 ds) ∧ Rp X.K pr.own H1 y (seqD b2 fs)) I
    (ha pr H σ _ g o fun H1 x dx g1 r1 q1 => hb pr H1 σ _ (g.go g1) (o.go g g1) fun H2 y dy g2 r2 q2 => by
      subst q1 q2
      exact ⟨g1.trans g2, x, y, rfl, r1.mono g2.mono, r2⟩)) fun us s1 ⟨vs, H1, I1, r1, g1, x, y, ev, rx, ry⟩ => ?_) hs hpl)))
  subst ev
  obtain ⟨a1, xs, e1, t1, rs1⟩ := Rp.src b1 rx
  obtain ⟨a2, ys, e2', t2, rs2⟩ := Rp.src b2 ry
  subst e1 e2'
  cases r1 with
  | cons r rr =>
    cases rr with
    | cons r' rr =>
      cases rr
      cases r
      cases r'
      obtain ⟨its1, rv1, q1⟩ := sq_seq b1 I1 (t1.sq b1)
      obtain ⟨its2, rv2, q2⟩ := sq_seq b2 I1 (t2.sq b2)
      have lt1 := isSeq_lt b1 q1
      have lt2 := isSeq_lt b2 q2
      refine zip_begins2 (begins b1 a1 its1.toArray) (begins b2 a2 its2.toArray) q1 q2 fun h' z t ou i1 i2 szh hk => Calls.spliced_nil ?_
      have e5 : h'.objs.size = s1.heap.objs.size + 5 := szh
      have st : ZSt (s1.heap.objs.size + 4) (s1.heap.objs.size + 2) (s1.heap.objs.size + 3) s1.heap.objs.size (s1.heap.objs.size + 1) (DSt b1 s1.heap.objs.size a1 xs) (DSt b2 (s1.heap.objs.size + 1) a2 ys) 0 h' :=
        ⟨⟨_, _, .inl rfl, z⟩, t, ⟨_, _, ou⟩, ⟨isIter_new b1 i1, its1, rv1, isSeq_at b1 q1 (hk a1)⟩, ⟨isIter_new b2 i2, its2, rv2, isSeq_at b2 q2 (hk a2)⟩⟩
      have hl1 : xs.length = ds.length := rs1.length
      have hl2 : ys.length = fs.length := rs2.length
      refine zl_call (A := X.A) (s := { s1 with heap := h' }) (zip_sep2 (N := s1.heap.objs.size) (fp1 := [a1]) (fp2 := [a2]) (fun b hb => by rw [List.mem_singleton.mp hb]; exact lt1) (fun b hb => by rw [List.mem_singleton.mp hb]; exact lt2))
        (draws (A := X.A.in1.in1.in1) (I1.ok.hd hc) b1 s1.heap.objs.size a1 (Nat.ne_of_lt lt1) xs) (draws (A := X.A.in1.in1.in1) (I1.ok.hd hc) b2 (s1.heap.objs.size + 1) a2 (Nat.ne_of_lt (Nat.lt_succ_of_lt lt2)) ys) z st (fun b hb => ?_) (by rw [hl1, hl2]; exact hz) fun h2 tk acc c ts q3 q4 q5 q6 q7 => ?_
      · show b < h'.objs.size
        rw [e5]
        have q : b = s1.heap.objs.size + 4 ∨ b = s1.heap.objs.size + 2 ∨ b = s1.heap.objs.size + 3 ∨ b = s1.heap.objs.size ∨ b = a1 ∨ b = s1.heap.objs.size + 1 ∨ b = a2 := by simpa using hb
        rcases q with q | q | q | q | q | q | q
        · rw [q]; exact Nat.add_lt_add_left (by decide) _
        · rw [q]; exact Nat.add_lt_add_left (by decide) _
        · rw [q]; exact Nat.add_lt_add_left (by decide) _
        · rw [q]; exact Nat.lt_add_of_pos_right (by decide)
        · rw [q]; exact Nat.lt_of_lt_of_le lt1 (Nat.le_add_right _ _)
        · rw [q]; exact Nat.add_lt_add_left (by decide) _
        · rw [q]; exact Nat.lt_of_lt_of_le lt2 (Nat.le_add_right _ _)
      · have kk : ∀ b o, s1.heap.get? b = some o → h2.get? b = some o := fun b o e => q3 b o (fun hm => by
          have lt := Heap.lt_size e
          have q : b = s1.heap.objs.size + 4 ∨ b = s1.heap.objs.size + 3 ∨ b = s1.heap.objs.size ∨ b = s1.heap.objs.size + 1 := by simpa using hm
          rcases q with q | q | q | q <;> rw [q] at lt
          · exact absurd lt (Nat.not_lt.mpr (Nat.le_add_right _ _))
          · exact absurd lt (Nat.not_lt.mpr (Nat.le_add_right _ _))
          · exact absurd lt (Nat.lt_irrefl _)
          · exact absurd lt (Nat.not_lt.mpr (Nat.le_add_right _ _))) (hk b o e)
        have hps : ts.length = (xs.zip ys).length := by rw [q5, List.length_zip]
        obtain ⟨H', sm, n1, n2, hl', ht', I'⟩ := pairs_laid (tk := tk) (ps := xs.zip ys) I1 (by rw [q5, hl1, hl2]; exact hz) hps kk (by show _ ≤ h'.objs.size; rw [e5]; exact Nat.le_add_right _ _) q4 q6.up q6.gt (fun j a hj => by
          obtain ⟨u, v, ⟨x, hx, rx⟩, ⟨y, hy, ry⟩, e⟩ := q6.at_ j a hj
          exact ⟨(x, y), u, v, zip_at hx hy, rx, ry, e⟩) q7
        have g2 : Gr0 pr H1 H' := .of_same sm
        have gg := g.go g1
        refine ⟨.ref _, H', I', rfl, k H' _ _ (g1.trans g2) (.lst ⟨gg.nown n1, hl'⟩ (rps_of ?_ fun j x d hx hd => ?_)) rfl⟩
        · unfold zipD2
          rw [List.length_map, List.length_map, hps, List.length_zip, List.length_zip, hl1, hl2]
        · rw [List.getElem?_map] at hx
          obtain ⟨t, et, rfl⟩ := Option.map_eq_some_iff.mp hx
          unfold zipD2 at hd
          rw [List.getElem?_map] at hd
          obtain ⟨⟨d1, d2⟩, ed, rfl⟩ := Option.map_eq_some_iff.mp hd
          obtain ⟨ed1, ed2⟩ := List.getElem?_zip_eq_some.mp ed
          have hj : j < ts.length := by
            obtain ⟨h, _⟩ := List.getElem?_eq_some_iff.mp et
            exact h
          obtain ⟨⟨x1, y1⟩, ex⟩ : ∃ q, (xs.zip ys)[j]? = some q := ⟨_, List.getElem?_eq_getElem (by rw [← hps]; exact hj)⟩
          obtain ⟨ex1, ey1⟩ := List.getElem?_zip_eq_some.mp ex
          obtain ⟨d1', f1, r1'⟩ := rs1.get' ex1
          obtain ⟨d2', f2, r2'⟩ := rs2.get' ey1
          rw [ed1] at f1
          rw [ed2] at f2
          cases f1
          cases f2
          exact .tup (.inl ⟨gg.nown (n2 t (List.mem_of_getElem? et)), ht' j t _ et ex⟩) (.cons (r1'.mono g2.mono) (.cons (r2'.mono g2.mono) .nil))
end
section
variable {T : Addr → Prop} {X : Cx} {es : List Ent} {elt iter : Expr} {scope : Scope} {k : Nat} {c P : Addr} {gpos pos p1 : Pos}
theorem src_pairs {pins : List (Addr × Obj)} {σ : St} {H : Hp} {s : Shared} {p : Pr} {ps : List (D × D)} (hP : T P) (ha : Ev T X es iter (Eq (.list (ps.map fun q => .tuple [q.1, q.2])))) (hpl : ∀ q ∈ ps, plain q.1 = true ∧ plain q.2 = true) (I : Inv X pins σ H s) (g : Good T p H) (o : EnvOk X.K p H σ es) :
    wpAny (model X.prog X.w) X.A (eval iter X.env) (fun xv s1 => wpAny (model X.prog X.w) X.A (pyIter xv) (Src2 X pins σ P (fun h i va vb => ∃ q, ps[i]? = some q ∧ RdX h va q.1 ∧ RdX h vb q.2) (fun H1 s0 N => Gr0 p H H1 ∧ N = ps.length)) X.xe s1) X.xe s := by
  refine thn (ha p H σ (fun v H1 => Gr0 p H H1 ∧ Rp X.K p.own H1 v (.list (ps.map fun q => .tuple [q.1, q.2]))) g o (fun H1 v d g1 r1 q1 => by subst q1; exact ⟨g1, r1⟩) pins s I) fun v s1 ⟨x, H1, I1, r1, g1, rp⟩ => ?_
  obtain ⟨a, xs, rfl, t, rs⟩ := Rp.src true rp
  cases r1
  obtain ⟨its, rv, hsq⟩ := sq_seq true I1 (t.sq true)
  have tg := (g.go g1).tabs P hP
  obtain ⟨op, eP, cP, _⟩ := tab_at I1 tg
  have ltP : P < s1.heap.objs.size := Heap.lt_size eP
  have aP := seq_ne I1 tg hsq
  have alt := isSeq_lt true hsq
  have hl : its.length = ps.length := by rw [← rv.length, rs.length, List.length_map]
  have key : ∀ j : Nat, ∃ y : Addr × Value × Value, j < its.length → its[j]? = some (.ref y.1) ∧ s1.heap.IsTuple y.1 #[y.2.1, y.2.2] ∧ ∃ q, ps[j]? = some q ∧ RdX s1.heap y.2.1 q.1 ∧ RdX s1.heap y.2.2 q.2 := fun j => by
    by_cases hj : j < its.length
    · have hjp : j < ps.length := by omega
      have hjx : j < xs.length := by rw [rv.length]; exact hj
      obtain ⟨d, ed, rd⟩ := rs.get' (List.getElem?_eq_getElem hjx)
      rw [List.getElem?_map, List.getElem?_eq_getElem hjp] at ed
      cases ed
      obtain ⟨v', ev', ry⟩ := rv.get (List.getElem?_eq_getElem hjx)
      obtain ⟨ta, ys, ex, tt, rss⟩ := Rp.src false (show Rp X.K p.own H1 xs[j] (seqD false [(ps[j]).1, (ps[j]).2]) from rd)
      rw [ex] at ry
      cases ry
      obtain ⟨tis, tv, tsq⟩ := sq_seq false I1 (tt.sq false)
      cases rss with
      | cons ra rss =>
        cases rss with
        | cons rb rss =>
          cases rss
          cases tv with
          | cons va tv =>
            cases tv with
            | cons vb tv =>
              cases tv
              obtain ⟨p1, p2⟩ := hpl _ (List.getElem_mem hjp)
              exact ⟨(ta, _, _), fun _ => ⟨ev', tsq, _, List.getElem?_eq_getElem hjp, Dp.reads I1 _ _ _ (ra.dp p1) va, Dp.reads I1 _ _ _ (rb.dp p2) vb⟩⟩
    · exact ⟨(0, .none, .none), fun h => absurd h hj⟩
  obtain ⟨f, hf⟩ := Classical.axiomOfChoice key
  have hsz : its.toArray.size = its.length := List.size_toArray
  have hTlt : ∀ j, j < its.length → (f j).1 < s1.heap.objs.size := fun j hj => by
    obtain ⟨_, ⟨o, e, _⟩, _⟩ := hf j hj
    exact Heap.lt_size e
  refine (begins true a its.toArray).iter X.prog X.w X.A X.xe s1 _ hsq ?_
  have kp : Kp s1.heap (s1.heap.push (iterO true a)) := fun b o e => Heap.get?_push_of_some _ e
  refine ⟨H1, s1, s1.heap.push (iterO true a), s1.toks, s1.heap.objs.size, [s1.heap.objs.size], ps.length, rfl, rfl, I1, kp, fun b hb => ?_, by rw [Heap.size_push]; exact Nat.le_succ _, tg, ⟨g1, rfl⟩, fun h4 k4 hz => ?_⟩
  · rw [List.mem_singleton.mp hb, Heap.size_push]
    exact ⟨Nat.le_refl _, Nat.lt_succ_self _⟩
  · rw [Heap.size_push] at hz
    have hW := fun (A' : Around) (hA : A'.handled = none) => (WalksU.listOfTuples (prog := X.prog) (w := X.w) hA s1.heap.objs.size a (Nat.ne_of_lt alt) its.toArray (fun j => (f j).1) (fun j => #[(f j).2.1, (f j).2.2]) (fun j hj => by
      rw [hsz] at hj
      simpa using (hf j hj).1) (fun j hj => by
      rw [hsz] at hj
      exact Nat.ne_of_lt (hTlt j hj))).bound
    rw [hsz, hl] at hW
    have eit : h4.get? s1.heap.objs.size = some (iterO true a) := k4 _ _ (Nat.ne_of_gt ltP) (Heap.get?_push_size _ rfl)
    refine ⟨_, _, _, _, hW, ⟨isIter_new true eit, isSeq_at true hsq fun o e => k4 a o aP (kp a o e), fun j hj => ?_⟩, fun b hb => ?_, fun i vals hv => ?_⟩
    · have hj' : j < its.length := by omega
      obtain ⟨_, ht, _⟩ := hf j hj'
      have hne := seq_ne (b := false) I1 tg ht
      exact isSeq_at false ht fun o e => k4 _ o hne (kp _ o e)
    · rcases List.mem_cons.mp hb with q | hb
      · rw [q]; exact hz
      · rcases List.mem_cons.mp hb with q | hb
        · rw [q]; exact Nat.lt_of_lt_of_le alt (Nat.le_trans (Nat.le_succ _) hz)
        · obtain ⟨j, hj, rfl⟩ := List.mem_map.mp hb
          have hj' : j < its.length := by have := List.mem_range.mp hj; omega
          exact Nat.lt_of_lt_of_le (hTlt j hj') (Nat.le_trans (Nat.le_succ _) hz)
    · obtain ⟨hi, ev⟩ := hv
      have hi' : i < its.length := by omega
      obtain ⟨_, _, q, eq, ra, rb⟩ := hf i hi'
      exact ⟨_, _, ev, q, eq, ra, rb⟩
theorem ev_genP {xa xb : Str} {pa pb pt : Pos} {kt : Nat} {ps : List (D × D)} {tr : Nat → Bool} (isAll : Bool) (hr : Room k X.A) (hc : X.calm = true) (hm : X.mg (aaN isAll) = none) (hP : T P) (TB : GxR.TabB X.base X.mg c P) (hcode : X.env.code = .ref c) (S : GxR.GenS X.env scope xa) (hxb : scope.names.lookup xb = some .local) (hab : xa ≠ xb)
    (ha : Ev T X es iter (Eq (.list (ps.map fun q => .tuple [q.1, q.2])))) (hpl : ∀ q ∈ ps, plain q.1 = true ∧ plain q.2 = true)
    (hel : ∀ (i : Nat) (q : D × D) (env : Env) (m : Str → Option Value) (h : Heap) (va vb : Value), ps[i]? = some q → env.scope = scope → Lf X.K X.mg env m h → m xa = some va → m xb = some vb → RdX h va q.1 → RdX h vb q.2 → Le X.prog X.w (X.A.units + 8) (X.A.depth + 1) env h elt (.bool (tr i)))
    (hg : Gl X (aaN isAll)) (hs : ∀ v, genFold iter X.env v = pure v := by intro _; rfl)
    (he : starEach [.GeneratorExp elt [⟨.Tuple [.Name xa pa, .Name xb pb] kt pt, iter, [], 0⟩] scope gpos] X.env = (false, eval (.GeneratorExp elt [⟨.Tuple [.Name xa pa, .Name xb pb] kt pt, iter, [], 0⟩] scope gpos) X.env) :: starEach [] X.env := by rfl) :
    Ev T X es (.Call (.Name (aaN isAll) p1) [.GeneratorExp elt [⟨.Tuple [.Name xa pa, .Name xb pb] kt pt, iter, [], 0⟩] scope gpos] [] pos) (Eq (.bool (aa isAll ps.length tr))) := fun p H σ Q g o kk pins s I => by
  refine wpAny_Call_Name_kw (ld_blt I hg hm (u := .builtin (if isAll = true then "all" else "any")) (by cases isAll <;> decide +kernel) ?_ (by cases isAll <;> decide) (by cases isAll <;> decide))
  refine PyProof.Rows.callWith_builtin1 ?_ he (by rfl)
  rw [he]
  show wpAny _ _ (spliced ((false, eval (.GeneratorExp elt [⟨.Tuple [.Name xa pa, .Name xb pb] kt pt, iter, [], 0⟩] scope gpos) X.env) :: backTo pos (starEach [] X.env))) _ _ s
  refine Calls.spliced_cons (gen2 hr TB hcode S hxb hab hs (src_pairs hP ha hpl I g o) fun H1 s0 N ⟨g1, eN⟩ I1 => ⟨tr, fun i va vb cenv m A' E' s2 G hV hma hmb => ?_, fun gg s5 hR => Calls.spliced_nil (call_aa isAll hR fun H2 ht => ?_)⟩)
  · obtain ⟨q, eq, ra, rb⟩ := hV
    have tg := (g.go g1).tabs P hP
    refine wpAny_mono (hel i q cenv m s2.heap va vb eq G.scp (gp_lf I1 tg G S.kind) hma hmb (RdX.kx I1 tg ra G.keep) (RdX.kx I1 tg rb G.keep) A' E' s2 G.hh G.hd G.hu (fun _ _ e => e)) (fun y s3 ⟨⟨as, r⟩, q⟩ => ?_) fun _ _ z => z
    cases r
    exact ⟨rfl, q⟩
  · subst eN
    exact kk H2 _ _ (g1.trans (tabbed_gr (g.go g1) hP ht)) (.bl _) rfl
end
end DL
end
section
set_option Elab.async false
set_option linter.all false
set_option autoImplicit false
set_option maxRecDepth 100000
set_option maxHeartbeats 2000000
/-! A def that raises BadStanding. -/
namespace DL
open PySem PySem.Spec L2
open PyProof.Rows hiding St
abbrev BsC (K : PySem.W.Frag) : Addr := He.ga K "BadStanding"
/-- a promise of a raise: the places alone -/
def SpR (T : Addr → Prop) (K : PySem.W.Frag) (sp : List Ent → Prop) : Sp := fun vs H _ E => ∃ (p : Pr) (as : List Ent), Good T p H ∧ EntsOk K p H vs as ∧ sp as ∧ ∀ H', Gr0 p H H' → E (.ref (BsC K)) none H'
structure FnR (T : Addr → Prop) (P : Program) (w : World) (K : PySem.W.Frag) (mg : Str → Option Value) (base : Heap) (k : Nat) (x : Str) (sp : List Ent → Prop) : Prop where
  ex : ∃ (f : Addr) (fd : FuncData) (ps : List Str), mg x = some (.ref f) ∧ PySem.W.keepIn K (.ref f) = true ∧ Binds K fd ps [] ∧ FnOk P w K mg base (L2.CX P w) k f fd ps (SpR T K sp)
/-- the place of a raising def's body -/
abbrev rX (P : Program) (w : World) (K : PySem.W.Frag) (mg : Str → Option Value) (base : Heap) (N : List Str) (qual : Str) (scope : Scope) (f : Addr) (cdv : Value) (A : Around) (outer : List Env) (s : Shared) (H : Hp) (E : XK) : Cx := cxOf (L2.CX P w) P w K mg base N qual scope f cdv A outer s H E
/-- statements that raise it -/
def Exr (T : Addr → Prop) (X : Cx) (WH : Hp → Prop) (es : List Ent) (st : List Stmt) : Prop := ∀ (p : Pr) (H : Hp) (σ : St) (D : Ends), Good T p H → EnvOk X.K p H σ es → (∀ H', Gr0 p H H' → WH H') → wS X st D σ H
/-- its wish -/
abbrev wR (K : PySem.W.Frag) (WH : Hp → Prop) : WX := fun cls d _ H => cls = .ref (BsC K) ∧ d = none ∧ WH H
section
variable {T : Addr → Prop} {X : Cx} {WH : Hp → Prop} {es : List Ent} {e c : Expr} {l : List Expr} {body rest : List Stmt} {pos pos' : Pos}
theorem pmk0 {C : Addr} {p : Pos} (b : BsOk X.K X.mg C) (hg : Gl X "BadStanding" := by rfl) : PMk X (.Call (.Name "BadStanding" p) [] [] pos) (fun _ H Q => Q (.ref C) none H) := by
  intro pins s σ H Q I h
  refine wpAny_Call_Name_kw (ld_glob I hg b.g ?_ (by decide))
  refine PySem.W.callWith_K0 (first := []) I.kIn b.kp ?_
  obtain ⟨bm, N, nm, qn, bs, hdct, sn, sub, ab, col, dd, k0, k1, k2, k3, k5, mN, hC, hN, hni, T⟩ := exc_obj I.kIn b.ex
  obtain ⟨hp, g, dr, tk, os⟩ := s
  refine wpAny_call_exc_subT F.excBase_ValueError T hC hN hni (fun h' e hm => ?_) (Nat.zero_le _)
  exact mk_of I hm (raises_own b.sb b.ty) h (I.hok.gone hm.new)
theorem exr_raise {p : Pos} (hc : X.calm = true) (b : BsOk X.K X.mg (BsC X.K)) (tk : Takes X (wR X.K WH)) (hg : Gl X "BadStanding" := by rfl) : Exr T X WH es (.Raise (some (.Call (.Name "BadStanding" p) [] [] pos)) none pos' :: rest) := fun p H σ D g o h =>
  wS_of (pss_cons (ps_raise hc tk (pmk0 b hg)) pss_w) ⟨rfl, rfl, h H (.refl H)⟩
theorem exr_if {A : Bool → Prop} (hc : Tv T X es c A) (h1 : A true → Exr T X WH es body) (h2 : A false → Exr T X WH es rest) : Exr T X WH es (.If c body [] pos :: rest) := fun p H σ D g o h =>
  wS_of (pss_cons (ps_if pt_w pss_w pss_nil) pss_w) (hc p H σ _ g o fun H1 z g1 q1 => by
    have h' : ∀ H', Gr0 p H1 H' → WH H' := fun H' g' => h H' (g1.trans g')
    cases z with
    | true => exact iteT (h1 q1 p H1 σ _ (g.go g1) (o.go g g1) h')
    | false => exact iteF (h2 q1 p H1 σ _ (g.go g1) (o.go g g1) h'))
theorem exr_expr {A : D → Prop} (he : Ev T X es e A) (h : Exr T X WH es rest) (hs : swapsWith e none pos.line X.env = pure false := by rfl) : Exr T X WH es (.Expr e pos :: rest) := fun p H σ D g o k =>
  wS_of (pss_cons (ps_expr pe_w hs) pss_w) (he p H σ _ g o fun H1 v d g1 r1 q1 => h p H1 σ _ (g.go g1) (o.go g g1) fun H' g' => k H' (g1.trans g'))
theorem exr_setD (i : Nat) {d : D} {x : Str} {px : Pos} (hN : X.N.Nodup) (he : Ev T X es e (Eq d)) (hr : Exr T X WH (es.set i (.dat d)) rest) (hi : X.N[i]? = some x := by rfl) (hx : Loc X.env.scope x := by first | exact Or.inl rfl | exact Or.inr rfl) (hs : swapsWith e (some (.Name x px)) pos.line X.env = pure false := by rfl) (hf : X.fn x = true ∨ X.env.scope.names.lookup x = some .local := by first | exact .inl rfl | exact .inr rfl) :
    Exr T X WH es (.Assign [.Name x px] e pos :: rest) := fun p H σ D g o k =>
  wS_of (pss_cons (ps_set hN hi hx pe_w hs hf) pss_w) (he p H σ _ g o fun H1 v d' g1 r1 q1 => by
    subst q1
    exact hr p H1 _ _ (g.go g1) ((o.go g g1).set (fun z => z) ⟨v, rfl, r1⟩) fun H' g' => k H' (g1.trans g'))
theorem exr_call {k : Nat} {x : Str} {p1 : Pos} {sp A : List Ent → Prop} (F : FnR T X.prog X.w X.K X.mg X.base k x sp) (hr : Room k X.A) (tk : Takes X (wR X.K WH)) (ha : Ar T X es (e :: l) A) (h : ∀ as, A as → sp as)
    (hg : Gl X x := by rfl) (hdb : (x == ("__debug__" : Str)) = false := by decide) (he : starEach (e :: l) X.env = (false, eval e X.env) :: starEach l X.env := by rfl) (hpl : (backTo pos (starEach l X.env)).any (·.1) = false := by rfl)
    (hs : swapsWith (.Call (.Name x p1) (e :: l) [] pos) none pos'.line X.env = pure false := by rfl) : Exr T X WH es (.Expr (.Call (.Name x p1) (e :: l) [] pos) pos' :: rest) := fun p H σ D g o k => by
  obtain ⟨f, fd, ps, h1, h2, h3, h4⟩ := F.ex
  refine wS_of (pss_cons (ps_expr (pe_callS (E := WE (wR X.K WH)) h4 hr hg h1 h2 h3 (fun σ => passAt tk σ) pa_w hdb he hpl) hs) pss_w) ?_
  exact ha p H σ _ g o fun H1 vs as g1 r1 q1 => ⟨p, as, g.go g1, r1, h as q1, fun H' g' => ⟨rfl, rfl, k H' (g1.trans g')⟩⟩
end
section
variable {T : Addr → Prop} {P : Program} {w : World} {K : PySem.W.Frag} {mg : Str → Option Value} {base : Heap} {d : He.DefD} {params : Arguments} {x qual : Str} {scope : Scope} {body : List Stmt} {fd : FuncData} {N ps : List Str} {k : Nat} {sp : List Ent → Prop}
theorem FnR.makeC (F : FunD K x qual params body scope [] [] (He.fAd K d.at_) fd) (hm : mg x = some (.ref (He.fAd K d.at_))) (S : FnScope N ps scope) (hl : ∀ as, sp as → as.length = ps.length ∧ ∀ e ∈ as, ¬ e.isOwn)
    (hb : ∀ (kV doc pm : Value) (an : Option Addr) (cdv ct : Value) (us : List Value), us.length = ps.length → bindArgs (PySem.W.fnOf x qual params body scope .none kV doc pm an cdv ct) ⟨us, []⟩ = pure (ps.zip us))
    (hbody : ∀ (A : Around) (outer : List Env) (s : Shared) (H : Hp) (E : XK), Room k (A.deeper (envOfC qual scope s.heap.objs.size (He.fAd K d.at_) (.ref (He.cT K d.at_).1))) → Takes (rX P w K mg base N qual scope (He.fAd K d.at_) (.ref (He.cT K d.at_).1) A outer s H E) (wR K fun H' => E (.ref (BsC K)) none H') → ∀ as, sp as → Exr T (rX P w K mg base N qual scope (He.fAd K d.at_) (.ref (He.cT K d.at_).1) A outer s H E) (fun H' => E (.ref (BsC K)) none H') (entSt N as) body) :
    FnR T P w K mg base (k + 1) x sp := by
  refine ⟨He.fAd K d.at_, fd, ps, hm, F.kp, F.bindsN hb, ?_⟩
  obtain ⟨oc, od, dV, kV, doc, pm, an, cdv, ct, osl, rfl, lk, hcd, _, _⟩ := F.ex
  obtain ⟨c, rfl⟩ := He.codeIn_ref hcd
  have ec : (He.cT K d.at_).1 = c := He.codeOf_eq lk rfl
  rw [ec] at hbody
  refine fn_of lk hcd S (fun vs H Q E h => ?_) (fun A outer s H vs Q E hr h => ?_)
  · obtain ⟨p, as, g, r, hs, _⟩ := h
    rw [r.length]
    exact (hl as hs).1
  · obtain ⟨p, as, g, r, hs, kk⟩ := h
    refine ⟨_, pss_w, hbody A outer s H E hr ?_ as hs p.in_ H (L2.start N vs) _ g.in_ (env_start r (hl as hs).2) fun H' g' => kk H' fun b y e _ => g' b y e fun z => z⟩
    exact (takes_of rfl rfl rfl rfl).imp fun cls d σ H ⟨h1, h2, h3⟩ => by rw [h1, h2]; exact h3
end
end DL
end
section
set_option Elab.async false
set_option linter.all false
set_option autoImplicit false
set_option maxRecDepth 100000
set_option maxHeartbeats 2000000
/-! The defs: goals, led on, led back; and that they raise. -/
namespace DL
open PySem PySem.Spec L2
open PyProof.Rows hiding St
open MA
section
variable {T : Addr → Prop} {P : Program} {w : World} {K : PySem.W.Frag} {mg : Str → Option Value} {base : Heap}
open LHead
theorem StOk.few {c : Clk} {st : List Int} (fit : c.Fit) (ok : StOk c st) : st.length ≤ 12 := by
  rw [ok.len]
  exact fit.ok.eds.few
/-- the pairs that a goal is asked by -/
def goalL (b : Bool) (st g : List Int) : List (Int × Int) := if b = true then g.zip st else st.zip g
theorem aa_no {n : Nat} {tr : Nat → Bool} {i : Nat} (hi : i < n) (h : tr i = false) : aa true n tr = false := by
  unfold aa
  rw [if_pos rfl, List.all_eq_false]
  exact ⟨i, List.mem_range.mpr hi, by rw [h]; exact Bool.false_ne_true⟩
theorem aa_yes {n : Nat} {tr : Nat → Bool} (h : ∀ i, i < n → tr i = true) : aa true n tr = true := by
  unfold aa
  rw [if_pos rfl, List.all_eq_true]
  exact fun i hi => h i (List.mem_range.mp hi)
def spGoal : SpP := fun as S => ∃ (c : Clk) (st g : List Int) (b : Bool), as = [.dat (dC c), .dat (dI st), .dat (dI g), .dat (.bool b)] ∧ c.Fit ∧ StOk c st ∧ StOk c g ∧ (∀ q ∈ goalL b st g, q.1 ≤ q.2) ∧ S .none
theorem fn_goal (W : Wd T K mg base) : Fn T P w K mg base 3 "need_goal" spGoal [] := by
  have hN : (["clock", "standing", "goal", "is_back", "pairs"] : List Str).Nodup := by decide +kernel
  obtain ⟨fd, hm, F⟩ := (W.dv 40 _ rfl).ex
  obtain ⟨hT, hB⟩ := W.tb 7 _ rfl
  refine Fn.makeC (d := d_need_goal) (N := ["clock", "standing", "goal", "is_back", "pairs"]) (ps := ["clock", "standing", "goal", "is_back"]) F hm ⟨rfl, rfl, rfl, by decide +kernel, rfl, by decide +kernel, by decide +kernel⟩ ?_ (fun _ _ _ _ _ _ us hl => match us, hl with | [_, _, _, _], _ => rfl) ?_
  · rintro as S ⟨c, st, g, b, rfl, _⟩
    exact ⟨rfl, by simp [Ent.isOwn]⟩
  · rintro A outer s H E hr as S ⟨c, st, g, b, rfl, fit, sok, gok, hall, hS⟩
    have s12 := StOk.few fit sok
    have g12 := StOk.few fit gok
    have hz : ∀ b, (goalL b st g).length ≤ 12 := fun b => by unfold goalL; split <;> rw [List.length_zip] <;> omega
    refine ex_expr (ev_callD (fn_stand W) (hr.mono (by decide)) (ar_cons (ev_nm 0) (ar_cons (ev_nm 2) ar_nil)) ⟨c, g, rfl, fit, gok, trivial⟩) ?_
    refine ex_setD 4 (d := .list ((goalL b st g).map fun q => .tuple [.int q.1, .int q.2])) hN (ev_ifE (A := Eq b) (tv_b (ev_nm 3)) (fun h => ?_) (fun h => ?_)) ?_
    · rw [h]
      show Ev T _ _ _ (Eq (.list ((g.zip st).map fun q => .tuple [.int q.1, .int q.2])))
      rw [← zipD2_map]
      exact ev_listZip false false rfl W.g.list W.g.zip (ev_nm 2) (ev_nm 1) (sz (by rw [List.length_map, List.length_map]; omega))
    · rw [h]
      show Ev T _ _ _ (Eq (.list ((st.zip g).map fun q => .tuple [.int q.1, .int q.2])))
      rw [← zipD2_map]
      exact ev_listZip false false rfl W.g.list W.g.zip (ev_nm 1) (ev_nm 2) (sz (by rw [List.length_map, List.length_map]; omega))
    refine ex_no _ (tv_notb (tv_b (ev_genP (ps := (goalL b st g).map fun q : Int × Int => (PyData.int q.1, PyData.int q.2)) (tr := fun _ => true) true hr rfl W.g.all hT hB rfl (genS_of rfl rfl (by decide +kernel) rfl rfl (by decide +kernel)) rfl (by decide) (Ev.imp (ev_nm 4) fun d e => by rw [← e, List.map_map]; rfl) ?_ ?_ rfl))) (by rw [aa_yes fun _ _ => rfl]; rfl) (ex_nil hS)
    · intro q hq
      obtain ⟨x, _, rfl⟩ := List.mem_map.mp hq
      exact ⟨rfl, rfl⟩
    · intro i q env m h va vb hq hs L hma hmb ra rb
      rw [List.getElem?_map] at hq
      obtain ⟨x, hx, rfl⟩ := Option.map_eq_some_iff.mp hq
      have e : decide (x.1 ≤ x.2) = true := decide_eq_true (hall x (List.mem_of_getElem? hx))
      rw [← e]
      exact le_le (le_nm L hma ra (kd_of hs rfl)) (le_nm L hmb rb (kd_of hs rfl))
def spLedOn : SpP := fun as S => ∃ (c : Clk) (t : Int) (st g : List Int), as = [.dat (dC c), .dat (.int t), .dat (dI st), .dat (dI g)] ∧ 0 ≤ t ∧ t ≤ 10 ^ 30 ∧ c.Fit ∧ StOk c st ∧ (∀ q ∈ st.zip g, q.1 ≤ q.2) ∧ LedOk c st g ∧ LedS c t st g S
theorem fn_ledOn (W : Wd T K mg base) : Fn T P w K mg base 7 "led_on" spLedOn [] := by
  have hN : (["clock", "tick", "standing", "goal"] : List Str).Nodup := by decide +kernel
  obtain ⟨fd, hm, F⟩ := (W.dv 41 _ rfl).ex
  refine Fn.make (N := ["clock", "tick", "standing", "goal"]) (ps := ["clock", "tick", "standing", "goal"]) F hm ⟨rfl, rfl, rfl, by decide +kernel, rfl, by decide +kernel, by decide +kernel⟩ ?_ (fun _ _ _ _ _ _ us hl => match us, hl with | [_, _, _, _], _ => rfl) ?_
  · rintro as S ⟨c, t, st, g, rfl, _⟩
    exact ⟨rfl, by simp [Ent.isOwn]⟩
  · rintro cdv A outer s H E hr as S ⟨c, t, st, g, rfl, t0, t1, fit, sok, hle, ok, hS⟩
    refine ex_expr (ev_callD (fn_midst W) (hr.mono (by decide)) (ar_cons (ev_nm 0) (ar_cons (ev_nm 1) (ar_cons (ev_nm 2) ar_nil))) ⟨c, t, st, rfl, fit, t0, t1, sok, trivial⟩) ?_
    refine ex_expr (ev_callD (fn_goal W) (hr.mono (by decide)) (ar_cons (ev_nm 0) (ar_cons (ev_nm 2) (ar_cons (ev_nm 3) (ar_cons ev_bl ar_nil)))) ⟨c, st, g, false, rfl, fit, sok, ok.goal, hle, trivial⟩) ?_
    exact ex_ret (ev_callD (fn_led W) (hr.mono (by decide)) (ar_cons (ev_nm 0) (ar_cons (ev_nm 1) (ar_cons (ev_nm 2) (ar_cons (ev_nm 3) ar_nil)))) ⟨c, t, st, g, rfl, ok, hS⟩)
def spLedBack : SpP := fun as S => ∃ (c : Clk) (t : Int) (st g : List Int), as = [.dat (dC c), .dat (.int t), .dat (dI st), .dat (dI g)] ∧ 0 ≤ t ∧ t ≤ 10 ^ 30 ∧ c.Fit ∧ StOk c st ∧ StOk c g ∧ (∀ q ∈ g.zip st, q.1 ≤ q.2) ∧ LedOk (mir c) (flipS c.eds st) (flipS c.eds g) ∧ LedS (mir c) t (flipS c.eds st) (flipS c.eds g) S
theorem fn_ledBack (W : Wd T K mg base) : Fn T P w K mg base 8 "led_back" spLedBack [] := by
  have hN : (["clock", "tick", "standing", "goal"] : List Str).Nodup := by decide +kernel
  obtain ⟨fd, hm, F⟩ := (W.dv 42 _ rfl).ex
  refine Fn.make (N := ["clock", "tick", "standing", "goal"]) (ps := ["clock", "tick", "standing", "goal"]) F hm ⟨rfl, rfl, rfl, by decide +kernel, rfl, by decide +kernel, by decide +kernel⟩ ?_ (fun _ _ _ _ _ _ us hl => match us, hl with | [_, _, _, _], _ => rfl) ?_
  · rintro as S ⟨c, t, st, g, rfl, _⟩
    exact ⟨rfl, by simp [Ent.isOwn]⟩
  · rintro cdv A outer s H E hr as S ⟨c, t, st, g, rfl, t0, t1, fit, sok, gok, hle, ok, hS⟩
    refine ex_expr (ev_callD (fn_midst W) (hr.mono (by decide)) (ar_cons (ev_nm 0) (ar_cons (ev_nm 1) (ar_cons (ev_nm 2) ar_nil))) ⟨c, t, st, rfl, fit, t0, t1, sok, trivial⟩) ?_
    refine ex_expr (ev_callD (fn_goal W) (hr.mono (by decide)) (ar_cons (ev_nm 0) (ar_cons (ev_nm 2) (ar_cons (ev_nm 3) (ar_cons ev_bl ar_nil)))) ⟨c, st, g, true, rfl, fit, sok, gok, hle, trivial⟩) ?_
    exact ex_ret (ev_callD (fn_backOf W) (hr.mono (by decide)) (ar_cons (ev_nm 0) (ar_cons (ev_nm 1) (ar_cons (ev_nm 2) (ar_cons (ev_nm 3) ar_nil)))) ⟨c, t, st, g, rfl, fit, ok, hS⟩)
/-! ### raised -/
theorem genS_ofR {P : Program} {w : World} {K : PySem.W.Frag} {mg : Str → Option Value} {base : Heap} {N : List Str} {qual : Str} {scope : Scope} {f : Addr} {cdv : Value} {A : Around} {outer : List Env} {s : Shared} {H : Hp} {E : XK} {gs : Scope} {y : Str} (hk : gs.kind = .function) (hco : gs.isCoroutine = false) (hc : ∀ y ∈ gs.names, y.2 ≠ .cell) (h0 : gs.names.lookup (".0" : Str) = some .local) (hy : gs.names.lookup y = some .local)
    (hf : ∀ y ∈ gs.names, y.2 = .free → scope.names.lookup y.1 = some .cell) : GxR.GenS (rX P w K mg base N qual scope f cdv A outer s H E).env gs y :=
  ⟨hk, hco, hc, h0, hy, fun z hz e => cell_has (hf z hz e)⟩
/-- no standing of the clock -/
def BadD (c : Clk) (d : D) : Prop := d = .none ∨ ∃ g : List Int, d = dI g ∧ (g.length ≠ c.eds.length ∨ (g.length = c.eds.length ∧ ∃ (i : Nat) (x e : Int), g[i]? = some x ∧ c.eds[i]? = some e ∧ ¬ (0 ≤ x ∧ x ≤ e)))
def spRStand : List Ent → Prop := fun as => ∃ (c : Clk) (d : D), as = [.dat (dC c), .dat d] ∧ BadD c d
theorem fnr_stand (W : Wd T K mg base) : FnR T P w K mg base 2 "need_standing" spRStand := by
  have hN : (["clock", "value"] : List Str).Nodup := by decide +kernel
  obtain ⟨fd, hm, F⟩ := (W.dv 25 _ rfl).ex
  obtain ⟨hT, hB⟩ := W.tb 5 _ rfl
  refine FnR.makeC (d := d_need_standing) (N := ["clock", "value"]) (ps := ["clock", "value"]) F hm ⟨rfl, rfl, rfl, by decide +kernel, rfl, by decide +kernel, by decide +kernel⟩ ?_ (fun _ _ _ _ _ _ us hl => match us, hl with | [_, _], _ => rfl) ?_
  · rintro as ⟨c, d, rfl, _⟩
    exact ⟨rfl, by simp [Ent.isOwn]⟩
  · rintro A outer s H E hr tk as ⟨c, d, rfl, hd⟩
    rcases hd with rfl | ⟨g, rfl, hlen | ⟨hlen, i, x, e, hx, he, hbad⟩⟩
    · exact exr_if (A := Eq (!false || true)) (Wv.tv (wv_or (tv_notb (tv_b (ev_isi (d := .none) (z := false) W.g.isi W.g.tuple boot_tuple (ev_nm 1) k_nt))) fun z => nomatch z)) (fun _ => exr_raise rfl W.bs tk) (fun z => nomatch z)
    · refine exr_if (A := Eq (!true || !decide (((g.map PyData.int).length : Int) = ((c.eds.map PyData.int).length : Int)))) (Wv.tv (wv_or (tv_notb (tv_b (ev_isi (d := dI g) (z := true) W.g.isi W.g.tuple boot_tuple (ev_nm 1) k_tt))) fun _ => wv_or1 (Cv.tvb (cv_ne (ev_lenT (ds := g.map .int) W.g.len (ev_nm 1).r) (ev_lenT (ds := c.eds.map .int) W.g.len (Ev.r (ev_ixT (ev_nm 0).r ev_int rfl)))) rfl))) (fun _ => exr_raise rfl W.bs tk) (fun z => ?_)
      rw [List.length_map, List.length_map, decide_eq_false (by omega)] at z
      cases z
    · refine exr_if (A := Eq (!true || !decide (((g.map PyData.int).length : Int) = ((c.eds.map PyData.int).length : Int)))) (Wv.tv (wv_or (tv_notb (tv_b (ev_isi (d := dI g) (z := true) W.g.isi W.g.tuple boot_tuple (ev_nm 1) k_tt))) fun _ => wv_or1 (Cv.tvb (cv_ne (ev_lenT (ds := g.map .int) W.g.len (ev_nm 1).r) (ev_lenT (ds := c.eds.map .int) W.g.len (Ev.r (ev_ixT (ev_nm 0).r ev_int rfl)))) rfl))) (fun _ => exr_raise rfl W.bs tk) (fun _ => ?_)
      refine exr_if (A := Eq (!aa true (min (g.map PyData.int).length (c.eds.map PyData.int).length) fun i => decide (0 ≤ g.getD i 0) && decide (g.getD i 0 ≤ c.eds.getD i 0))) (tv_notb (tv_b (ev_genZ (ds := g.map .int) (fs := c.eds.map .int) (tr := fun i => decide (0 ≤ g.getD i 0) && decide (g.getD i 0 ≤ c.eds.getD i 0)) true false false hr rfl W.g.all W.g.zip hT hB rfl (genS_ofR rfl rfl (by decide +kernel) rfl rfl (by decide +kernel)) rfl (by decide) (ev_nm 1) (ev_ixT (ev_nm 0).r ev_int rfl) (plain_map fun _ => rfl) (plain_map fun _ => rfl) ?_ rfl))) (fun _ => exr_raise rfl W.bs tk) (fun z => ?_)
      · intro i da db env m h va vb ha hb hs L cap hma hmb ra rb
        rw [List.getElem?_map] at ha hb
        obtain ⟨x, hx, rfl⟩ := Option.map_eq_some_iff.mp ha
        obtain ⟨e, he, rfl⟩ := Option.map_eq_some_iff.mp hb
        rw [List.getD_eq_getElem?_getD, List.getD_eq_getElem?_getD, hx, he]
        exact le_number W (depth_of hr) L (le_nm L hma ra (kd_of hs rfl)) le_int (le_nm L hmb rb (kd_of hs rfl)) (kd_of hs rfl)
      · rw [aa_no (i := i) (by
          obtain ⟨h1, _⟩ := List.getElem?_eq_some_iff.mp hx
          rw [List.length_map, List.length_map]
          omega) (by
          rw [List.getD_eq_getElem?_getD, List.getD_eq_getElem?_getD, hx, he]
          show (decide (0 ≤ x) && decide (x ≤ e)) = false
          rw [Bool.and_eq_false_iff, decide_eq_false_iff_not, decide_eq_false_iff_not]
          omega)] at z
        cases z
def spRGoal : List Ent → Prop := fun as => ∃ (c : Clk) (st : List Int) (d : D) (b : Bool), as = [.dat (dC c), .dat (dI st), .dat d, .dat (.bool b)] ∧ c.Fit ∧ StOk c st ∧ (BadD c d ∨ ∃ g, d = dI g ∧ StOk c g ∧ ∃ q ∈ goalL b st g, ¬ q.1 ≤ q.2)
theorem fnr_goal (W : Wd T K mg base) : FnR T P w K mg base 3 "need_goal" spRGoal := by
  have hN : (["clock", "standing", "goal", "is_back", "pairs"] : List Str).Nodup := by decide +kernel
  obtain ⟨fd, hm, F⟩ := (W.dv 40 _ rfl).ex
  obtain ⟨hT, hB⟩ := W.tb 7 _ rfl
  refine FnR.makeC (d := d_need_goal) (N := ["clock", "standing", "goal", "is_back", "pairs"]) (ps := ["clock", "standing", "goal", "is_back"]) F hm ⟨rfl, rfl, rfl, by decide +kernel, rfl, by decide +kernel, by decide +kernel⟩ ?_ (fun _ _ _ _ _ _ us hl => match us, hl with | [_, _, _, _], _ => rfl) ?_
  · rintro as ⟨c, st, d, b, rfl, _⟩
    exact ⟨rfl, by simp [Ent.isOwn]⟩
  · rintro A outer s H E hr tk as ⟨c, st, d, b, rfl, fit, sok, hd | ⟨g, rfl, gok, q0, hq0, hbad⟩⟩
    · exact exr_call (fnr_stand W) (hr.mono (by decide)) tk (ar_cons (ev_nm 0) (ar_cons (ev_nm 2) ar_nil)) fun as e => ⟨c, d, e.symm, hd⟩
    have s12 := StOk.few fit sok
    have g12 := StOk.few fit gok
    refine exr_expr (ev_callD (S := Eq .none) (fn_stand W) (hr.mono (by decide)) (ar_cons (ev_nm 0) (ar_cons (ev_nm 2) ar_nil)) ⟨c, g, rfl, fit, gok, rfl⟩) ?_
    refine exr_setD 4 (d := .list ((goalL b st g).map fun q => .tuple [.int q.1, .int q.2])) hN (ev_ifE (A := Eq b) (tv_b (ev_nm 3)) (fun h => ?_) (fun h => ?_)) ?_
    · rw [h]
      show Ev T _ _ _ (Eq (.list ((g.zip st).map fun q => .tuple [.int q.1, .int q.2])))
      rw [← zipD2_map]
      exact ev_listZip false false rfl W.g.list W.g.zip (ev_nm 2) (ev_nm 1) (sz (by rw [List.length_map, List.length_map]; omega))
    · rw [h]
      show Ev T _ _ _ (Eq (.list ((st.zip g).map fun q => .tuple [.int q.1, .int q.2])))
      rw [← zipD2_map]
      exact ev_listZip false false rfl W.g.list W.g.zip (ev_nm 1) (ev_nm 2) (sz (by rw [List.length_map, List.length_map]; omega))
    refine exr_if (A := Eq (!aa true ((goalL b st g).map fun q : Int × Int => (PyData.int q.1, PyData.int q.2)).length fun i => decide (((goalL b st g).getD i (0, 0)).1 ≤ ((goalL b st g).getD i (0, 0)).2))) ?_ (fun _ => exr_raise rfl W.bs tk) (fun z => ?_)
    · refine tv_notb (tv_b (ev_genP (ps := (goalL b st g).map fun q : Int × Int => (PyData.int q.1, PyData.int q.2)) (tr := fun i => decide (((goalL b st g).getD i (0, 0)).1 ≤ ((goalL b st g).getD i (0, 0)).2)) true hr rfl W.g.all hT hB rfl (genS_ofR rfl rfl (by decide +kernel) rfl rfl (by decide +kernel)) rfl (by decide) (Ev.imp (ev_nm 4) fun d e => by rw [← e, List.map_map]; rfl) ?_ ?_ rfl))
      · intro q hq
        obtain ⟨x, _, rfl⟩ := List.mem_map.mp hq
        exact ⟨rfl, rfl⟩
      · intro i q env m h va vb hq hs L hma hmb ra rb
        rw [List.getElem?_map] at hq
        obtain ⟨x, hx, rfl⟩ := Option.map_eq_some_iff.mp hq
        rw [List.getD_eq_getElem?_getD, hx]
        exact le_le (le_nm L hma ra (kd_of hs rfl)) (le_nm L hmb rb (kd_of hs rfl))
    · obtain ⟨i, hi⟩ := List.mem_iff_getElem?.mp hq0
      rw [aa_no (i := i) (by
        obtain ⟨h1, _⟩ := List.getElem?_eq_some_iff.mp hi
        rw [List.length_map]
        exact h1) (by
        rw [List.getD_eq_getElem?_getD, hi]
        exact decide_eq_false hbad)] at z
      cases z
def spRLed (b : Bool) : List Ent → Prop := fun as => ∃ (c : Clk) (t : Int) (st : List Int) (d : D), as = [.dat (dC c), .dat (.int t), .dat (dI st), .dat d] ∧ 0 ≤ t ∧ t ≤ 10 ^ 30 ∧ c.Fit ∧ StOk c st ∧ (BadD c d ∨ ∃ g, d = dI g ∧ StOk c g ∧ ∃ q ∈ goalL b st g, ¬ q.1 ≤ q.2)
theorem fnr_on (W : Wd T K mg base) : FnR T P w K mg base 7 "led_on" (spRLed false) := by
  obtain ⟨fd, hm, F⟩ := (W.dv 41 _ rfl).ex
  refine FnR.makeC (d := d_led_on) (N := ["clock", "tick", "standing", "goal"]) (ps := ["clock", "tick", "standing", "goal"]) F hm ⟨rfl, rfl, rfl, by decide +kernel, rfl, by decide +kernel, by decide +kernel⟩ ?_ (fun _ _ _ _ _ _ us hl => match us, hl with | [_, _, _, _], _ => rfl) ?_
  · rintro as ⟨c, t, st, d, rfl, _⟩
    exact ⟨rfl, by simp [Ent.isOwn]⟩
  · rintro A outer s H E hr tk as ⟨c, t, st, d, rfl, t0, t1, fit, sok, hd⟩
    refine exr_expr (ev_callD (S := Eq .none) (fn_midst W) (hr.mono (by decide)) (ar_cons (ev_nm 0) (ar_cons (ev_nm 1) (ar_cons (ev_nm 2) ar_nil))) ⟨c, t, st, rfl, fit, t0, t1, sok, rfl⟩) ?_
    exact exr_call (fnr_goal W) (hr.mono (by decide)) tk (ar_cons (ev_nm 0) (ar_cons (ev_nm 2) (ar_cons (ev_nm 3) (ar_cons ev_bl ar_nil)))) fun as e => ⟨c, st, d, false, e.symm, fit, sok, hd⟩
theorem fnr_back (W : Wd T K mg base) : FnR T P w K mg base 7 "led_back" (spRLed true) := by
  obtain ⟨fd, hm, F⟩ := (W.dv 42 _ rfl).ex
  refine FnR.makeC (d := d_led_back) (N := ["clock", "tick", "standing", "goal"]) (ps := ["clock", "tick", "standing", "goal"]) F hm ⟨rfl, rfl, rfl, by decide +kernel, rfl, by decide +kernel, by decide +kernel⟩ ?_ (fun _ _ _ _ _ _ us hl => match us, hl with | [_, _, _, _], _ => rfl) ?_
  · rintro as ⟨c, t, st, d, rfl, _⟩
    exact ⟨rfl, by simp [Ent.isOwn]⟩
  · rintro A outer s H E hr tk as ⟨c, t, st, d, rfl, t0, t1, fit, sok, hd⟩
    refine exr_expr (ev_callD (S := Eq .none) (fn_midst W) (hr.mono (by decide)) (ar_cons (ev_nm 0) (ar_cons (ev_nm 1) (ar_cons (ev_nm 2) ar_nil))) ⟨c, t, st, rfl, fit, t0, t1, sok, rfl⟩) ?_
    exact exr_call (fnr_goal W) (hr.mono (by decide)) tk (ar_cons (ev_nm 0) (ar_cons (ev_nm 2) (ar_cons (ev_nm 3) (ar_cons ev_bl ar_nil)))) fun as e => ⟨c, st, d, true, e.symm, fit, sok, hd⟩
end
end DL
end
section
set_option Elab.async false
set_option linter.all false
set_option autoImplicit false
set_option maxRecDepth 100000
set_option maxHeartbeats 2000000
/-! try: a call that raises BadStanding; the draws' row made. -/
namespace DL
open PySem PySem.Spec L2
open PyProof.Rows hiding St
theorem EnvOk.setU {K : PySem.W.Frag} {p : Pr} {H : Hp} {σ : St} {es : List Ent} {i : Nat} {x : Option V} (o : EnvOk K p H σ es) (he : es[i]? = some .unk) : EnvOk K p H (σ.set i x) es := by
  have no : ¬ Owned es i := fun ⟨e, q, h⟩ => by
    rw [he] at q
    cases q
    exact h
  refine ⟨by rw [List.length_set]; exact o.len, fun j e q => ?_, fun j k a ne h1 h2 e1 => ?_⟩
  · by_cases hij : i = j
    · subst hij
      rw [he] at q
      cases q
      trivial
    · rw [List.getElem?_set_ne hij]
      exact o.at_ j e q
  · have hj : i ≠ j := fun z => no (z ▸ h1)
    have hk : i ≠ k := fun z => no (z ▸ h2)
    rw [List.getElem?_set_ne hj] at e1
    rw [List.getElem?_set_ne hk]
    exact o.apart j k a ne h1 h2 e1
/-- statements that raise BadStanding, whatever is wished of it -/
def ExW (T : Addr → Prop) (X : Cx) (es : List Ent) (st : List Stmt) : Prop := ∀ (p : Pr) (H : Hp) (σ : St) (D : Ends) (W : WX), Takes X W → Good T p H → EnvOk X.K p H σ es → (∀ H', Gr0 p H H' → W (.ref (BsC X.K)) none σ H') → wS X st D σ H
section
variable {T : Addr → Prop} {X : Cx} {es : List Ent} {e c : Expr} {l : List Expr} {body rest : List Stmt} {pos pos' : Pos}
theorem exw_call {k : Nat} {x : Str} {p1 : Pos} {sp A : List Ent → Prop} (F : FnR T X.prog X.w X.K X.mg X.base k x sp) (hr : Room k X.A) (ha : Ar T X es (e :: l) A) (h : ∀ as, A as → sp as)
    (hg : Gl X x := by rfl) (hdb : (x == ("__debug__" : Str)) = false := by decide) (he : starEach (e :: l) X.env = (false, eval e X.env) :: starEach l X.env := by rfl) (hpl : (backTo pos (starEach l X.env)).any (·.1) = false := by rfl)
    (hs : swapsWith (.Call (.Name x p1) (e :: l) [] pos) none pos'.line X.env = pure false := by rfl) : ExW T X es (.Expr (.Call (.Name x p1) (e :: l) [] pos) pos' :: rest) := fun p H σ D W tk g o k => by
  obtain ⟨f, fd, ps, h1, h2, h3, h4⟩ := F.ex
  refine wS_of (pss_cons (ps_expr (pe_callS (E := WE W) h4 hr hg h1 h2 h3 (fun σ => passAt tk σ) pa_w hdb he hpl) hs) pss_w) ?_
  exact ha p H σ _ g o fun H1 vs as g1 r1 q1 => ⟨p, as, g.go g1, r1, h as q1, fun H' g' => k H' (g1.trans g')⟩
theorem ex_tryE (i : Nat) {b₀ : Stmt} {suite : List Stmt} {n : Str} {np : Pos} {P : Po} (hN : X.N.Nodup) (b : BsOk X.K X.mg (BsC X.K)) (hei : es[i]? = some .unk) (hi : X.N[i]? = some n)
    (hb : ∀ pn xe, ExW T (X.tr pn xe) es body)
    (hsu : ∀ a pn, Ex T (X.suite a pn) es (b₀ :: suite) { P with nx := fun es' => es'[i]? = some .unk ∧ Ex T X es' rest P, bk := fun _ => False, ct := fun _ => False })
    (hs : X.stack = X.env :: X.outer := by rfl) (hf : X.env.frame = some X.env.locals := by rfl) (hln : X.env.kindOf n = some .local := by rfl) (hg : Gl X "BadStanding" := by rfl) :
    Ex T X es (.Try body [.ExceptHandler (some (.Name "BadStanding" np)) (some n) (b₀ :: suite) pos'] [] [] pos :: rest) P :=
  ex_cons fun p H σ D g o fi => by
    refine wS1_of (ps_try_as (X := X) (c := .ref (BsC X.K)) (i := i) (Wout := fun _ _ _ _ => False) (tb := fun W D σ H => ∀ (pn : List (Addr × Obj)) (xe : Value → Shared → Prop), Takes (X.tr pn xe) W → wS (X.tr pn xe) body D σ H) (ts := fun a cls d D σ H => ∀ (oe : Obj) (pn : List (Addr × Obj)), wS (X.suite a ((a, oe) :: pn)) (b₀ :: suite) D σ H) hs hf hN hi hln ⟨hg, by decide, .inl b.g⟩ takes0
      (fun W pn xe tk _ => ⟨fun pins s σ H D I h => h pn xe tk pins s I⟩) (fun a oe cls d pn hz hd => ⟨fun pins s σ H D I h => h oe pn pins s I⟩)) ?_
    intro pn xe tk
    refine hb pn xe p H σ D _ tk g o fun H' g' => ⟨true, b.me, fun _ a _ => ?_, fun z => nomatch z⟩
    intro oe pn'
    have st := Step.of_gr g g'
    refine hsu a _ p H' _ _ (g.go g') ((o.go g g').setU hei) ⟨fun es' q G σ' s hx o' => ?_, fun d v q G s hx rv => ?_, fun _ _ _ _ _ z => z.elim, fun _ _ _ _ _ z => z.elim⟩
    · exact fi.nx es' q G (σ'.set i none) (st.trans s) hx.2 (o'.setU hx.1)
    · exact fi.rt d v q G (st.trans s) hx rv
end
end DL
end
section
set_option Elab.async false
set_option linter.all false
set_option autoImplicit false
set_option maxRecDepth 100000
set_option maxHeartbeats 2000000
/-! t[::-1]; the draws' row made; values drawn in a row. -/
namespace PySem
section
variable {prog : Program} {w : World} {A : Around} {E : Value → Shared → Prop} {s : Shared}
theorem applied_back {sl : Addr} {vl vu vs : Value} {n : Nat} {Q : Int × Int × Nat → Shared → Prop} (hs : s.heap.IsSliceOf sl vl vu vs) (pl : IsPart vl none) (pu : IsPart vu none) (ps : IsPart vs (some (-1)))
    (h : Q ((n : Int) - 1, -1, n) s) : wpAny (model prog w) A (Builtin.Slice.sliceApplied (.ref sl) (pure (n : Int))) Q E s := by
  obtain ⟨os, hos, hcs, hds⟩ := id hs
  unfold Builtin.Slice.sliceApplied Builtin.Slice.sliceFields
  refine wpAny_bind (wpAny_bind (wpAny_field hos hds (x := vl) rfl (wpAny_bind (wpAny_field hos hds (x := vu) rfl (wpAny_bind (wpAny_field hos hds (x := vs) rfl (wpAny_pure ?_)))))))
  refine wpAny_bind (HT.slicePart_ ps ?_)
  show wpAny _ _ (if ((-1 : Int) == 0) = true then _ else _) _ _ s
  rw [if_neg (by decide)]
  refine wpAny_bind (HT.slicePart_ pl (wpAny_bind (HT.slicePart_ pu (wpAny_bind (wpAny_pure ?_)))))
  show wpAny _ _ (match Builtin.Slice.sliceAdjust none none (-1) (n : Int) with | (lo, hi) => pure (lo, (-1 : Int), Builtin.Slice.slicePlaces lo hi (-1))) _ _ s
  have e1 : Builtin.Slice.sliceAdjust none none (-1) (n : Int) = ((n : Int) - 1, -1) := rfl
  have e2 : Builtin.Slice.slicePlaces ((n : Int) - 1) (-1) (-1) = n := by
    unfold Builtin.Slice.slicePlaces
    have h1 : ¬ ((-1 : Int) > 0) := by decide
    simp only [h1, if_false]
    by_cases h : (n : Int) - 1 > -1
    · simp only [h, if_true]
      rw [show (- -1 : Int) = 1 by decide, Int.ediv_one]
      omega
    · simp only [h, if_false]
      omega
  rw [e1]
  show wpAny _ _ (pure ((n : Int) - 1, (-1 : Int), Builtin.Slice.slicePlaces ((n : Int) - 1) (-1) (-1))) _ _ s
  rw [e2]
  exact wpAny_pure h
theorem fm_congr {α β : Type} {f g : α → Option β} : ∀ {l : List α}, (∀ x ∈ l, f x = g x) → l.filterMap f = l.filterMap g
  | [], _ => rfl
  | x :: l, h => by
    rw [List.filterMap_cons, List.filterMap_cons, h x List.mem_cons_self, fm_congr fun y hy => h y (List.mem_cons_of_mem _ hy)]
theorem pick_back (xs : Array Value) : ((List.range xs.size).filterMap fun (m : Nat) => xs[(((xs.size : Int) - 1) + (m : Int) * (-1)).toNat]?).toArray = xs.toList.reverse.toArray := by
  have e : (List.range xs.size).filterMap (fun (m : Nat) => xs[(((xs.size : Int) - 1) + (m : Int) * (-1)).toNat]?) = ((List.range xs.size).map fun k => xs.size - 1 - k).filterMap (xs[·]?) := by
    rw [List.filterMap_map]
    refine fm_congr fun m hm => ?_
    have := List.mem_range.mp hm
    show xs[(((xs.size : Int) - 1) + (m : Int) * (-1)).toNat]? = xs[xs.size - 1 - m]?
    rw [show (((xs.size : Int) - 1) + (m : Int) * (-1)).toNat = xs.size - 1 - m by omega]
  rw [e, PySem.W.krv_range, List.filterMap_reverse, PySem.W.krv_all]
theorem getItem_tuple_back {t sl : Addr} {items : Array Value} {vl vu vs : Value} {Q : Value → Shared → Prop} (ht : PyProof.Rows.IsTup s.heap t items) (hs : s.heap.IsSliceOf sl vl vu vs) (pl : IsPart vl none) (pu : IsPart vu none) (ps : IsPart vs (some (-1)))
    (h : Q (.ref s.heap.objs.size) { s with heap := s.heap.push { cls := .type "tuple", data := .seq items.toList.reverse.toArray } }) (hsz : items.size ≤ sizeLine) : wpAny (model prog w) A (getItem (.ref t) (.ref sl)) Q E s := by
  have hok : sizeOk (.seq items.toList.reverse.toArray) := by
    show items.toList.reverse.toArray.size ≤ sizeLine
    rw [List.size_toArray, List.length_reverse, Array.length_toList]
    exact hsz
  obtain ⟨os, hos, hcs, hds⟩ := id hs
  have hTs : s.TypeIs (.ref sl) "slice" := ⟨os, hos, hcs⟩
  unfold getItem
  try with_reducible refine wpAny_holding ?_
  first | refine wpAny_bind (wpAny_pure ?_) | skip
  refine wpAny_bind (wpAny_sequenceKey ht.typeIs (by decide) ?_)
  refine wpAny_bind (wpAny_callSpecial?_slot (name := Str.ofString "__getitem__") ht.typeIs PyProof.Rows.slot_tuple_getitem
    (wpAny_call_entry PyProof.Rows.slot_tuple_getitem ht.typeIs PyProof.Rows.entry_tuple_getitem ?_ (PyProof.Rows.args_tuple_getitem _ _)))
  show wpAny _ _ (Builtin.Tuple.tupleItemsOf (.ref t) >>= _) _ _ s
  refine wpAny_bind (PyProof.Rows.tupleItemsOf_ ht ?_)
  refine wpAny_bind (wpAny_typeOf hTs ?_)
  rw [if_pos (by decide)]
  refine wpAny_bind (applied_back hs pl pu ps ?_)
  have hno : ¬ ((((items.size : Int) - 1) == 0 && (-1 : Int) == 1 && items.size == items.size) = true) := by
    intro q
    rw [Bool.and_eq_true, Bool.and_eq_true] at q
    exact absurd (eq_of_beq q.1.2) (by decide)
  show wpAny _ _ (if (((items.size : Int) - 1) == 0 && (-1 : Int) == 1 && items.size == items.size) = true then _ else _) _ _ s
  rw [if_neg hno, pick_back]
  first
    | exact wpAny_bind (m := Builtin.Tuple.tupleExact _) (wpAny_newObj_type (wpAny_pure ⟨_, rfl, wpAny_pure h⟩) hok)
    | exact wpAny_bind (m := Builtin.Tuple.tupleExact _) (wpAny_newObj_type (wpAny_bind (wpAny_pure (wpAny_pure ⟨_, rfl, wpAny_pure h⟩))) hok)
    | exact wpAny_bind (wpAny_bind (m := Builtin.Tuple.tupleExact _) (wpAny_newObj_type (wpAny_pure (wpAny_pure ⟨_, rfl, wpAny_pure h⟩)) hok))
    | exact wpAny_bind (wpAny_bind (m := Builtin.Tuple.tupleExact _) (wpAny_newObj_type (wpAny_pure ⟨_, rfl, wpAny_pure h⟩) hok))
end
end PySem
namespace DL
open PySem PySem.Spec L2
open PyProof.Rows hiding St
open MA
section
variable {X : Cx} {e : Expr} {te : TE} {k : Nat} {p1 p2 p3 pos : Pos}
def tRevT (K : PySem.W.Frag) (te : TE) : TE := fun σ H Q => te σ H fun x H1 => ∃ a xs, x = .ref a ∧ SqT K H1 a xs ∧ ∀ p, H1 p = none → Q (.ref p) (L2.upd H1 p (.tup xs.reverse))
theorem pe_revT (he : PE X e te) : PE X (.Subscript e (.Slice none none (some (.UnaryOp .USub (.Constant (.int 1) k p1) p2)) p3) pos) (tRevT X.K te) := by
  refine ⟨fun pins s σ H Q I h => ?_⟩
  refine Subscript_ (thn (he.run pins s σ H _ I h) fun v s1 ⟨x, H1, I1, r1, q1⟩ => ?_)
  obtain ⟨a, xs, ex, hx, q⟩ := q1
  subst ex
  cases r1
  have hst : PO X (some (.UnaryOp .USub (.Constant (.int 1) k p1) p2)) (tPart (tUn (rU fun i => .int (-i)) (tC (.int 1)))) := po_some (pe_un un_neg pe_int)
  refine wpAny_Slice (thn (po_none.run pins s1 σ H1 (fun o H2 => o = none ∧ H2 = H1) I1 ⟨rfl, rfl⟩) fun vl s2 ⟨l, H2, I2, pl, el, e2⟩ => ?_)
  subst el e2
  refine thn (po_none.run pins s2 σ H2 (fun o H3 => o = none ∧ H3 = H2) I2 ⟨rfl, rfl⟩) fun vu s3 ⟨u, H3, I3, pu, eu, e3⟩ => ?_
  subst eu e3
  refine thn (hst.run pins s3 σ H3 (fun o H4 => o = some (-1) ∧ H4 = H3) I3 ⟨1, rfl, -1, rfl, rfl, rfl⟩) fun vs s4 ⟨o, H4, I4, ps, eo, e4⟩ => ?_
  subst eo e4
  have I5 : Inv X pins σ H4 { s4 with heap := s4.heap.push { cls := .type "slice", data := .fields #[vl, vu, vs] } } := I4.kept (t' := s4.toks) fun b ob q => Heap.get?_push_of_some _ q
  obtain ⟨its, r, ht, hz⟩ := I5.tuple hx
  have hlen := r.length
  show wpAny (model X.prog X.w) X.A (subscriptTail e (.Slice none none (some (.UnaryOp .USub (.Constant (.int 1) k p1) p2)) p3) (.ref a) (.ref s4.heap.objs.size)) (EP X pins σ Q) X.xe { s4 with heap := s4.heap.push { cls := .type "slice", data := .fields #[vl, vu, vs] } }
  refine tail_any (ops := [.ref a, .ref s4.heap.objs.size]) ht.typeIs (PyProof.Rows.slot_tuple_getitem.lookup) ?_ (by with_unfolding_all rfl)
  refine getItem_tuple_back ht (Heap.IsSliceOf.new _ vl vu vs) pl pu ps ?_ (by rw [List.size_toArray]; omega)
  refine ⟨.ref _, _, I5.laid (t' := s4.toks) (o := .tup xs.reverse) (fun b ob q => Heap.get?_push_of_some _ q) (Nat.le_refl _) ?_, rfl, q _ (I5.hok.fresh (Nat.le_refl _))⟩
  exact ⟨by rw [List.length_reverse]; exact hz, _, r.reverse, IsTup.new _ _⟩
end
section
variable {T : Addr → Prop} {X : Cx} {es : List Ent} {a b : Expr} {l rest : List Expr} {k : Nat} {p1 p2 p3 pos : Pos}
theorem Rps.rev {K : PySem.W.Frag} {O : Addr → Prop} {H : Hp} {xs : List V} {ds : List D} (r : Rps K O H xs ds) : Rps K O H xs.reverse ds.reverse := by
  refine rps_of (by rw [List.length_reverse, List.length_reverse, r.length]) fun j x d hx hd => ?_
  have hj : j < xs.length := by
    obtain ⟨h, _⟩ := List.getElem?_eq_some_iff.mp hx
    rw [List.length_reverse] at h
    exact h
  have hl := r.length
  rw [List.getElem?_reverse hj] at hx
  rw [List.getElem?_reverse (by omega)] at hd
  obtain ⟨d', e, rr⟩ := r.get' hx
  rw [hl, hd] at e
  cases e
  exact rr
theorem ev_rev {ds : List D} (ha : Ev T X es a (Eq (.tuple ds))) : Ev T X es (.Subscript a (.Slice none none (some (.UnaryOp .USub (.Constant (.int 1) k p1) p2)) p3) pos) (Eq (.tuple ds.reverse)) := fun p H σ Q g o kk =>
  wE_of (pe_revT pe_w) (ha p H σ _ g o fun H1 x dx g1 r1 q1 => by
    subst q1
    obtain ⟨ad, xs, e, t, s⟩ := r1.tup_v
    subst e
    exact ⟨ad, xs, rfl, t.sq, fun q hq => kk _ _ _ (g1.trans (gr_new hq)) (rp_newT (g.go g1) hq s.rev) rfl⟩)
/-- ints drawn, one for each -/
theorem LcOut.ints {α : Type} {C : α → Bool → Prop} {R : α → Int → Prop} : ∀ {xs : List α} {ys : List D}, (∀ x, ¬ C x false) → LcOut C (fun x y => ∃ k : Int, y = .int k ∧ R x k) xs ys → ∃ l : List Int, ys = l.map .int ∧ l.length = xs.length ∧ ∀ (i : Nat) (x : α) (v : Int), xs[i]? = some x → l[i]? = some v → R x v
  | _, _, _, .nil => ⟨[], rfl, rfl, fun i x v h => nomatch h⟩
  | _, _, h0, .keep _ ⟨v, e, hv⟩ h => by
    obtain ⟨l, e1, e2, e3⟩ := LcOut.ints h0 h
    refine ⟨v :: l, by rw [e1, e]; rfl, by rw [List.length_cons, List.length_cons, e2], fun i x u h1 h2 => ?_⟩
    cases i with
    | zero =>
      cases Option.some.inj h1
      cases Option.some.inj h2
      exact hv
    | succ i => exact e3 i x u h1 h2
  | _, _, h0, .skip c h => absurd c (h0 _)
theorem ev_draws {elt tg iter : Expr} {scope : Scope} {own : List (Str × Nat)} {α : Type} {enc : α → D} {L : List α} {R : α → Int → Prop} (hc : X.calm = true) (hN : X.N.Nodup) (ok : BlkOk X.N X.env.scope scope own) (hi : Wk T X es tg iter (Eq (L.map enc))) (hl : L.length ≤ sizeLine)
    (hb : ∀ x ∈ L, ∃ es', ∀ s H c' cl fp, Bd T (bX X scope s H c' cl fp) (own.map (·.2)) tg (enc x) (wipeE es (own.map (·.2))) es' ∧ Ev T (bX X scope s H c' cl fp) es' elt (fun d => ∃ k : Int, d = .int k ∧ R x k))
    (hs : ∀ x, foldedSetIterable iter X.env x = pure x := by intro _; rfl) : Ev T X es (.ListComp elt [⟨tg, iter, [], 0⟩] scope pos) (fun d => ∃ l : List Int, d = .list (l.map .int) ∧ l.length = L.length ∧ ∀ (i : Nat) (x : α) (v : Int), L[i]? = some x → l[i]? = some v → R x v) :=
  (ev_lcS (A := fun M => M = L) (C := fun _ b => true = b) (F := fun x y => ∃ k : Int, y = .int k ∧ R x k) hc hN ok (fun p H σ R g o k => hi p H σ R g o fun J H1 xs g1 e W => k J H1 xs g1 ⟨L, e.symm, rfl⟩ W) (fun M e => by rw [e]; exact hl) (fun M e x hx => by
    rw [e] at hx
    obtain ⟨es', h⟩ := hb x hx
    exact ⟨es', fun s H c cl fp => ⟨(h s H c cl fp).1, tvs_nil, fun _ => (h s H c cl fp).2⟩⟩) hs).imp fun d ⟨M, ys, e1, e2, h⟩ => by
      subst e1 e2
      obtain ⟨l, h1, h2, h3⟩ := LcOut.ints (fun _ z => by cases z) h
      exact ⟨l, by rw [h1], h2, h3⟩
end
end DL
end
section
set_option Elab.async false
set_option linter.all false
set_option autoImplicit false
set_option maxRecDepth 100000
set_option maxHeartbeats 2000000
/-! The law: its walk, the mathematics asked for. -/
namespace DL
open PySem PySem.Spec L2
open PyProof.Rows hiding St
open MA
def mostK (c : Clk) (ws : List (List Int)) (k : Int) : Int := c.p * ((maxI (0 :: ws.flatten) + c.p - 1) / c.p + k)
def dueW (K : Int) (ws : List (List Int)) : List (List Int) := ws.map fun l => l.reverse.map fun v => K - v
/-- what plain mathematics has to say -/
structure LawMath : Prop where
  on : ∀ (c : Clk) (t : Int) (st g : List Int), ClkLaw c → 0 ≤ t → t < 9 → StOk c st → StOk c g → (∀ q ∈ st.zip g, q.1 ≤ q.2) → LedOk c st g ∧ BestIn c t st g ∧ ∀ S : D → Prop, (∀ d, ToldOk c t st g d → S d) → LedS c t st g S
  back : ∀ (c : Clk) (t : Int) (st g : List Int), ClkLaw c → 0 ≤ t → t < 9 → StOk c st → StOk c g → (∀ q ∈ g.zip st, q.1 ≤ q.2) → LedOk (mir c) (flipS c.eds st) (flipS c.eds g) ∧ BestIn c t st g ∧ ∀ S : D → Prop, (∀ d, ToldOk c t st g d → S d) → LedS (mir c) t (flipS c.eds st) (flipS c.eds g) S
  same : ∀ (c : Clk) (t : Int) (st : List Int), ClkLaw c → StOk c st → StOk c c.eds ∧ (∀ q ∈ st.zip c.eds, q.1 ≤ q.2) ∧ LedOk c st c.eds ∧ ∃ d, Alk 2 d ∧ LedS c t st c.eds (fun x => x = d) ∧ ∀ r, RestPost c st t r → rsD c st r = d
  mirFit : ∀ c : Clk, c.Fit → (mir c).Fit
  mir3 : ∀ c : Clk, c.Fit → mir (mir (mir c)) = mir c
  need : ∀ (c : Clk) (w e o : Int), c.Fit → 0 ≤ w → w < c.eds.length → 0 ≤ o → o < c.eds.length → o ≠ w → 0 < leastN c w e o → gI c.eds w - e + 1 ≤ leastN (mir c) o (gI c.eds o - leastN c w e o + 1) w
  bwFit : ∀ c : Clk, c.Fit → (bw0 c).Fit
  none_ : ∀ (c : Clk) (r : Option (Ex2 → Int)), c.Fit → leastPost (bw c) none → leastPost c r → r = none
  some_ : ∀ (c : Clk) (x : Ex2 → Int) (k : Int), c.Fit → leastPost (bw c) (some x) → 0 ≤ k → k < 2 → 0 ≤ mostK c (planX c.eds x) k ∧ ∀ r, mostPost c (mostK c (planX c.eds x) k) r → plD c r = wD (dueW (mostK c (planX c.eds x) k) (planX c.eds x))
theorem shp_dC (c : Clk) : shp 3 (dC c) = true := by
  have e3 : ∀ t, shp 1 (dT3 t) = true := fun t => rfl
  have e4 : ∀ t, shp 1 (dT4 t) = true := fun t => rfl
  have eI : ∀ l, shp 1 (dI l) = true := fun l => by
    show shp 1 (.tuple (l.map .int)) = true
    rw [shp]
    exact shps_mapX (fun _ => rfl) _
  have e2 : ∀ l, shp 2 (dI l) = true := fun l => by
    show shp 2 (.tuple (l.map .int)) = true
    rw [shp]
    exact shps_mapX (fun _ => rfl) _
  have a1 : shp 2 (.tuple (c.tch.map dT3)) = true := by
    rw [shp]
    exact shps_mapX e3 _
  have a2 : shp 2 (.tuple (c.gps.map dI)) = true := by
    rw [shp]
    exact shps_mapX eI _
  have a3 : shp 2 (.tuple (c.bk.map dT4)) = true := by
    rw [shp]
    exact shps_mapX e4 _
  unfold dC
  rw [shp]
  simp only [shps]
  rw [e2, a1, a2, a3]
  rfl
theorem noB_dC (c : Clk) : noB (dC c) = true := by
  have e3 : ∀ t, noB (dT3 t) = true := fun t => rfl
  have e4 : ∀ t, noB (dT4 t) = true := fun t => rfl
  have eI : ∀ l, noB (dI l) = true := fun l => by
    show noB (.tuple (l.map .int)) = true
    rw [noB]
    exact noBs_mapI l
  have mm : ∀ {α : Type} {f : α → D} (l : List α), (∀ x, noB (f x) = true) → noB (.tuple (l.map f)) = true := fun {α f} l h => by
    rw [noB]
    exact noBs_mem fun d hd => by
      obtain ⟨x, _, rfl⟩ := List.mem_map.mp hd
      exact h x
  unfold dC
  rw [noB]
  refine noBs_mem fun d hd => ?_
  simp only [List.mem_cons, List.not_mem_nil, or_false] at hd
  rcases hd with rfl | rfl | rfl | rfl | rfl
  · rfl
  · exact eI _
  · exact mm _ e3
  · exact mm _ eI
  · exact mm _ e4
theorem alk_dI (n : Nat) (l : List Int) (h : l.length ≤ 1000) : Alk (n + 1) (dI l) := ⟨by rw [List.length_map]; exact h, fun d hd => by
  obtain ⟨i, _, rfl⟩ := List.mem_map.mp hd
  cases n <;> trivial⟩
theorem alk_wD (ws : List (List Int)) (h : ws.length ≤ 1000) (hl : ∀ l ∈ ws, l.length ≤ 1000) : Alk 2 (wD ws) := ⟨by rw [List.length_map]; exact h, fun d hd => by
  obtain ⟨l, hm, rfl⟩ := List.mem_map.mp hd
  exact alk_dI 0 l (hl l hm)⟩
theorem planX_few {c : Clk} (fit : c.Fit) (x : Ex2 → Int) : (planX c.eds x).length ≤ 12 ∧ ∀ l ∈ planX c.eds x, l.length ≤ 50 := by
  have h12 := fit.ok.eds.few
  unfold planX
  refine ⟨by rw [List.length_map, List.length_zipIdx]; exact h12, fun l hl => ?_⟩
  obtain ⟨q, hq, rfl⟩ := List.mem_map.mp hl
  have h1 := List.mem_zipIdx_iff_getElem?.mp hq
  have := fit.ok.eds.num q.1 (List.mem_of_getElem? h1)
  rw [List.length_map, List.length_range]
  omega
section
variable {T : Addr → Prop} {P : Program} {w : World} {K : PySem.W.Frag} {mg : Str → Option Value} {base : Heap}
open LHead
abbrev lawN : List Str := ["_law_script", "_law_row", "_law_clock_here", "_law_tick", "_law_last", "_law_standing", "_law_own", "_law_later", "_law_elder", "_law_other", "_law_wheel", "_law_far", "_law_end", "_law_due", "_law_early", "_law_most", "_law_wrong", "e", "_law_ticks"]
theorem law_body (W : Wd T K mg base) (M : LawMath) (cdv : Value) (A : Around) (outer : List Env) (s : Shared) (H : Hp) (E : XK) (hr : Room 9 (A.deeper (envOfC d_law.qual d_law.scope s.heap.objs.size (He.fAd K d_law.at_) cdv))) (ns : List Int) :
    Ex T (cX P w K mg base lawN d_law.qual d_law.scope (He.fAd K d_law.at_) cdv A outer s H E) [.unk, .row ns, .unk, .unk, .unk, .unk, .unk, .unk, .unk, .unk, .unk, .unk, .unk, .unk, .unk, .unk, .unk, .unk, .unk] (defBody st_law).tail { rt := fun d => d = .bool true } := by
  have hN : lawN.Nodup := by decide +kernel
  -- clock
  refine ex_set 2 hN (S := fun d => ∃ c, ClkLaw c ∧ d = dC c) (ev_call (fn_clockL W) (hr.mono (by decide)) (ar_row (ns := ns) 1 ar_nil) fun as h => by
    obtain ⟨r, e, q⟩ := h
    subst e
    subst q
    exact ⟨ns, rfl, fun c h => ⟨c, h, rfl⟩⟩) ?_
  rintro _ ⟨c, L, rfl⟩
  have fit := L.fit
  have w3 := L.w3
  have e12 := fit.ok.eds.few
  have e4 := fit.ok.eds.num
  have hp : 0 < c.p := by have := fit.ok.p1; omega
  have hp4 := L.p4
  -- tick
  refine ex_set 3 hN (S := Under 9) (ev_take 1 (fn_taken W) (hr.mono (by decide)) ev_int (by decide) (by decide)) ?_
  rintro _ ⟨t, rfl, t0, t9⟩
  -- standing
  refine ex_set 5 hN (S := fun d => ∃ st : List Int, d = dI st ∧ StOk c st) (Ev.imp (ev_tupLS (B := fun ds => ∃ l : List Int, ds = l.map .int ∧ StOk c l) W.g.tuple (Ev.r (Ev.imp (ev_draws (own := [("_law_last", 4)]) (L := c.eds) (enc := .int) (R := fun x k => 0 ≤ k ∧ k ≤ x) rfl hN (blkOk_by (by kernel_rfl)) (wk_tup (ev_ixT (ev_nm 2).r ev_int rfl)) (sz (by omega)) (fun x hx => ⟨[.unk, .row ns, .dat (dC c), .dat (.int t), .dat (.int x), .unk, .unk, .unk, .unk, .unk, .unk, .unk, .unk, .unk, .unk, .unk, .unk, .unk, .unk], fun s H c' cl fp => ⟨bd_nm 4 hN, Ev.imp (ev_take (m := x + 1) 1 (fn_taken W) (hr.mono (by decide)) (ev_add (ev_nm 4) ev_int) (by have := e4 x hx; omega) (by have := e4 x hx; omega)) fun d ⟨k, e, k0, k1⟩ => ⟨k, e, k0, by omega⟩⟩⟩)) fun d ⟨l, e1, e2, e3⟩ => ⟨_, e1, l, rfl, e2, fun i v e h1 h2 => e3 i e v h2 h1⟩))) fun d ⟨ds, e1, l, e2, h⟩ => ⟨l, by rw [e1, e2]; rfl, h⟩) ?_
  rintro _ ⟨st, rfl, sok⟩
  have slen := sok.len
  have snum : ∀ x ∈ st, 0 ≤ x ∧ x ≤ 4 := fun x hx => by
    obtain ⟨i, hi⟩ := List.mem_iff_getElem?.mp hx
    obtain ⟨hl, _⟩ := List.getElem?_eq_some_iff.mp hi
    have he : c.eds[i]? = some (c.eds[i]'(by omega)) := List.getElem?_eq_getElem (by omega)
    have h1 := sok.num i x _ hi he
    have h2 := e4 _ (List.mem_of_getElem? he)
    omega
  -- later
  refine ex_set 7 hN (S := fun d => ∃ g : List Int, d = dI g ∧ StOk c g ∧ ∀ q ∈ st.zip g, q.1 ≤ q.2) (Ev.imp (ev_tupLS (B := fun ds => ∃ l : List Int, ds = l.map .int ∧ StOk c l ∧ ∀ q ∈ st.zip l, q.1 ≤ q.2) W.g.tuple (Ev.r (Ev.imp (ev_draws (own := [("_law_own", 6), ("_law_last", 4)]) (L := st.zip c.eds) (enc := fun q => .tuple [.int q.1, .int q.2]) (R := fun q k => q.1 ≤ k ∧ k ≤ q.2) rfl hN (blkOk_by (by kernel_rfl)) (by
    rw [← zipD2_map]
    exact wk_zip2 false false W.g.zip (ev_nm 5) (ev_ixT (ev_nm 2).r ev_int rfl)) (sz (by rw [List.length_zip]; omega)) (fun q hq => ⟨[.unk, .row ns, .dat (dC c), .dat (.int t), .dat (.int q.2), .dat (dI st), .dat (.int q.1), .unk, .unk, .unk, .unk, .unk, .unk, .unk, .unk, .unk, .unk, .unk, .unk], fun s H c' cl fp => ⟨bd_tup rfl (Bds.cons rfl (bd_nm 6 hN) (Bds.cons rfl (bd_nm 4 hN) .nil)), ?_⟩⟩)) fun d ⟨l, e1, e2, e3⟩ => ⟨_, e1, l, rfl, ?_, ?_⟩))) fun d ⟨ds, e1, l, e2, h⟩ => ⟨l, by rw [e1, e2]; rfl, h⟩) ?_
  · obtain ⟨i, hi⟩ := List.mem_iff_getElem?.mp hq
    obtain ⟨h1, h2⟩ := List.getElem?_zip_eq_some.mp hi
    have h3 := sok.num i _ _ h1 h2
    have h4 := e4 _ (List.mem_of_getElem? h2)
    exact ev_opI0 op_add (ev_nm 6) (ev_take 1 (fn_taken W) (hr.mono (by decide)) (ev_add (ev_sub (ev_nm 4) (ev_nm 6)) ev_int) (by omega) (by omega)) fun x y q1 q2 => by
      obtain ⟨k, rfl, k0, k1⟩ := q2
      exact ⟨q.1, k, q1.symm, rfl, _, rfl, by omega, by omega⟩
  · rw [List.length_zip] at e2
    refine ⟨by omega, fun i v e h1 h2 => ?_⟩
    have hi : i < st.length := by
      obtain ⟨h, _⟩ := List.getElem?_eq_some_iff.mp h1
      omega
    have hs : st[i]? = some st[i] := List.getElem?_eq_getElem hi
    have h3 := e3 i (st[i], e) v (zip_at hs h2) h1
    have h4 := sok.num i _ _ hs h2
    exact ⟨Int.le_trans h4.1 h3.1, h3.2⟩
  · intro q hq
    obtain ⟨i, hi⟩ := List.mem_iff_getElem?.mp hq
    obtain ⟨h1, h2⟩ := List.getElem?_zip_eq_some.mp hi
    obtain ⟨hl, _⟩ := List.getElem?_eq_some_iff.mp h1
    have he : c.eds[i]? = some (c.eds[i]'(by omega)) := List.getElem?_eq_getElem (by omega)
    exact (e3 i (q.1, c.eds[i]'(by omega)) q.2 (zip_at h1 he) h2).1
  rintro _ ⟨ga, rfl, gaok, gale⟩
  -- elder
  refine ex_set 8 hN (S := fun d => ∃ g : List Int, d = dI g ∧ StOk c g ∧ ∀ q ∈ g.zip st, q.1 ≤ q.2) (Ev.imp (ev_tupLS (B := fun ds => ∃ l : List Int, ds = l.map .int ∧ StOk c l ∧ ∀ q ∈ l.zip st, q.1 ≤ q.2) W.g.tuple (Ev.r (Ev.imp (ev_draws (own := [("_law_own", 6)]) (L := st) (enc := .int) (R := fun q k => 0 ≤ k ∧ k ≤ q) rfl hN (blkOk_by (by kernel_rfl)) (wk_tup (ev_nm 5)) (sz (by omega)) (fun q hq => ⟨[.unk, .row ns, .dat (dC c), .dat (.int t), .unk, .dat (dI st), .dat (.int q), .dat (dI ga), .unk, .unk, .unk, .unk, .unk, .unk, .unk, .unk, .unk, .unk, .unk], fun s H c' cl fp => ⟨bd_nm 6 hN, ?_⟩⟩)) fun d ⟨l, e1, e2, e3⟩ => ⟨_, e1, l, rfl, ?_, ?_⟩))) fun d ⟨ds, e1, l, e2, h⟩ => ⟨l, by rw [e1, e2]; rfl, h⟩) ?_
  · have := snum q hq
    exact Ev.imp (ev_take (m := q + 1) 1 (fn_taken W) (hr.mono (by decide)) (ev_add (ev_nm 6) ev_int) (by omega) (by omega)) fun d ⟨k, e, k0, k1⟩ => ⟨k, e, k0, by omega⟩
  · refine ⟨by omega, fun i v e h1 h2 => ?_⟩
    have hi : i < st.length := by
      obtain ⟨h, _⟩ := List.getElem?_eq_some_iff.mp h1
      omega
    have hs : st[i]? = some st[i] := List.getElem?_eq_getElem hi
    have h3 := e3 i st[i] v hs h1
    have h4 := sok.num i _ _ hs h2
    exact ⟨h3.1, Int.le_trans h3.2 h4.2⟩
  · intro q hq
    obtain ⟨i, hi⟩ := List.mem_iff_getElem?.mp hq
    obtain ⟨h1, h2⟩ := List.getElem?_zip_eq_some.mp hi
    exact (e3 i q.2 q.1 h2 h1).2
  rintro _ ⟨gb, rfl, gbok, gble⟩
  obtain ⟨on1, on2, on3⟩ := M.on c t st ga L t0 t9 sok gaok gale
  obtain ⟨bk1, bk2, bk3⟩ := M.back c t st gb L t0 t9 sok gbok gble
  obtain ⟨sm0, sm1, sm2, dr, sm3, sm4, sm5⟩ := M.same c t st L sok
  have t30 : t ≤ 10 ^ 30 := by omega
  -- led on
  refine ex_no _ (tv_notb (tv_b (ev_call (S := Eq (.bool true)) (fn_best W) (hr.mono (by decide)) (ar_consS (A := Eq (dC c)) (ev_nm 2) (ar_consS (A := Eq (.int t)) (ev_nm 3) (ar_consS (A := Eq (dI st)) (ev_nm 5) (ar_consS (A := Eq (dI ga)) (ev_nm 7) (ar_consS (A := ToldOk c t st ga) (ev_callD (fn_ledOn W) (hr.mono (by decide)) (ar_cons (ev_nm 2) (ar_cons (ev_nm 3) (ar_cons (ev_nm 5) (ar_cons (ev_nm 7) ar_nil)))) ⟨c, t, st, ga, rfl, t0, t30, fit, sok, gale, on1, on3 _ fun d h => h⟩) ar_nil))))) fun as h => by
    obtain ⟨_, _, rfl, e1, _, _, rfl, e2, _, _, rfl, e3, _, _, rfl, e4, told, _, rfl, e5, e6⟩ := h
    subst e1 e2 e3 e4 e6
    exact ⟨c, t, st, ga, told, rfl, fit, on2, e5, rfl⟩))) rfl ?_
  -- led back
  refine ex_no _ (tv_notb (tv_b (ev_call (S := Eq (.bool true)) (fn_best W) (hr.mono (by decide)) (ar_consS (A := Eq (dC c)) (ev_nm 2) (ar_consS (A := Eq (.int t)) (ev_nm 3) (ar_consS (A := Eq (dI st)) (ev_nm 5) (ar_consS (A := Eq (dI gb)) (ev_nm 8) (ar_consS (A := ToldOk c t st gb) (ev_callD (fn_ledBack W) (hr.mono (by decide)) (ar_cons (ev_nm 2) (ar_cons (ev_nm 3) (ar_cons (ev_nm 5) (ar_cons (ev_nm 8) ar_nil)))) ⟨c, t, st, gb, rfl, t0, t30, fit, sok, gbok, gble, bk1, bk3 _ fun d h => h⟩) ar_nil))))) fun as h => by
    obtain ⟨_, _, rfl, e1, _, _, rfl, e2, _, _, rfl, e3, _, _, rfl, e4, told, _, rfl, e5, e6⟩ := h
    subst e1 e2 e3 e4 e6
    exact ⟨c, t, st, gb, told, rfl, fit, bk2, e5, rfl⟩))) rfl ?_
  -- to the lasts: as rest
  refine ex_no _ (tv_notb (tv_b (ev_callD (S := Eq (.bool true)) (fn_alike W 2) (hr.mono (by decide)) (ar_cons (d := dr) (Ev.imp (ev_callD (S := fun x => x = dr) (fn_ledOn W) (hr.mono (by decide)) (ar_cons (ev_nm 2) (ar_cons (ev_nm 3) (ar_cons (ev_nm 5) (ar_cons (ev_ixT (ev_nm 2).r ev_int rfl) ar_nil)))) ⟨c, t, st, c.eds, rfl, t0, t30, fit, sok, sm1, sm2, sm4⟩) fun d e => e.symm) (ar_cons (d := dr) (Ev.imp (ev_callD (S := fun x => x = dr) (fn_rest W) (hr.mono (by decide)) (ar_cons (ev_nm 2) (ar_cons (ev_nm 3) (ar_cons (ev_nm 5) ar_nil))) ⟨c, t, st, rfl, fit, t0, t30, sok, sm5⟩) fun d e => e.symm) ar_nil)) ⟨dr, rfl, sm3, rfl⟩))) rfl ?_
  -- mirror
  have mfit := M.mirFit c fit
  refine ex_setD 9 (d := dC (mir c)) hN (ev_callD (fn_mirror W) (hr.mono (by decide)) (ar_cons (ev_nm 2) ar_nil) ⟨c, rfl, fit, rfl⟩) ?_
  refine ex_forD [10, 4] (L := c.eds.zipIdx) (enc := fun q : Int × Nat => .tuple [.int (q.2 : Int), .int q.1]) (fun i es => ∃ z4 z6 z10 z11 z12 z13 : Ent, es = [.unk, .row ns, .dat (dC c), .dat (.int t), z4, .dat (dI st), z6, .dat (dI ga), .dat (dI gb), .dat (dC (mir c)), z10, z11, z12, z13, .unk, .unk, .unk, .unk, .unk]) .never rfl (by rw [← enumD_map]; exact wk_enum false W.g.enum (ev_ixT (ev_nm 2).r ev_int rfl)) ⟨_, _, _, _, _, _, rfl⟩ ?_ ?_
  · rintro i ⟨la, wh⟩ es' hi ⟨z4, z6, z10, z11, z12, z13, rfl⟩
    have hw' := List.mem_zipIdx_iff_getElem?.mp (List.mem_of_getElem? hi)
    have hw : c.eds[wh]? = some la := hw'
    obtain ⟨hwl, _⟩ := List.getElem?_eq_some_iff.mp hw
    have hla := e4 la (List.mem_of_getElem? hw)
    refine ⟨_, bd_tup rfl (Bds.cons rfl (bd_nm 10 hN) (Bds.cons rfl (bd_nm 4 hN) .nil)), ?_⟩
    refine ex_forD [11, 12] (L := c.eds.zipIdx) (enc := fun q : Int × Nat => .tuple [.int (q.2 : Int), .int q.1]) (fun i es => ∃ z6 z11 z12 z13 : Ent, es = [.unk, .row ns, .dat (dC c), .dat (.int t), .dat (.int la), .dat (dI st), z6, .dat (dI ga), .dat (dI gb), .dat (dC (mir c)), .dat (.int (wh : Int)), z11, z12, z13, .unk, .unk, .unk, .unk, .unk]) .never rfl (by rw [← enumD_map]; exact wk_enum false W.g.enum (ev_ixT (ev_nm 2).r ev_int rfl)) ⟨_, _, _, _, rfl⟩ ?_ ?_
    · rintro j ⟨en, fa⟩ es' hj ⟨z6, z11, z12, z13, rfl⟩
      have hf' := List.mem_zipIdx_iff_getElem?.mp (List.mem_of_getElem? hj)
      have hf : c.eds[fa]? = some en := hf'
      obtain ⟨hfl, _⟩ := List.getElem?_eq_some_iff.mp hf
      refine ⟨_, bd_tup rfl (Bds.cons rfl (bd_nm 11 hN) (Bds.cons rfl (bd_nm 12 hN) .nil)), ?_⟩
      refine ex_forD [6] (L := rngI 0 (la + 1)) (enc := .int) (fun i es => ∃ z6 z13 : Ent, es = [.unk, .row ns, .dat (dC c), .dat (.int t), .dat (.int la), .dat (dI st), z6, .dat (dI ga), .dat (dI gb), .dat (dC (mir c)), .dat (.int (wh : Int)), .dat (.int (fa : Int)), .dat (.int en), z13, .unk, .unk, .unk, .unk, .unk]) .never rfl (by
        rw [← rngL0]
        exact wk_rng1 W.g.range (ev_add (ev_nm 4) ev_int) (by omega) (by omega)) ⟨_, _, rfl⟩ ?_ ?_
      · rintro m ow es' hm ⟨z6, z13, rfl⟩
        have how := mem_rngI.mp (List.mem_of_getElem? hm)
        refine ⟨_, bd_nm 6 hN, ?_⟩
        refine ex_if (A := Eq (!decide ((fa : Int) = (wh : Int)))) (Cv.tvb (cv_ne (ev_nm 11) (ev_nm 10)) rfl) (fun q => ?_) (fun q => ?_)
        · have hne : (fa : Int) ≠ (wh : Int) := fun e => by rw [decide_eq_true e] at q; cases q
          refine ex_setD 13 (d := .bool (decide (la - ow + 1 ≤ leastN (mir c) (fa : Int) (en - leastN c (wh : Int) ow (fa : Int) + 1) (wh : Int)))) hN (Cv.evb (cv_ge (ev_callD (fn_lneed W) (hr.mono (by decide)) (ar_cons (ev_nm 9) (ar_cons (ev_nm 11) (ar_cons (ev_add (ev_sub (ev_nm 12) (ev_callD (fn_lneed W) (hr.mono (by decide)) (ar_cons (ev_nm 2) (ar_cons (ev_nm 10) (ar_cons (ev_nm 6) (ar_cons (ev_nm 11) ar_nil)))) ⟨c, (wh : Int), ow, (fa : Int), rfl, rfl⟩)) ev_int) (ar_cons (ev_nm 10) ar_nil)))) ⟨mir c, (fa : Int), en - leastN c (wh : Int) ow (fa : Int) + 1, (wh : Int), rfl, rfl⟩) (ev_add (ev_sub (ev_nm 4) (ev_nm 6)) ev_int)) rfl) ?_
          refine ex_no _ (Wv.tv (wv_and (Cv.tvb (cv_gt (ev_callD (fn_lneed W) (hr.mono (by decide)) (ar_cons (ev_nm 2) (ar_cons (ev_nm 10) (ar_cons (ev_nm 6) (ar_cons (ev_nm 11) ar_nil)))) ⟨c, (wh : Int), ow, (fa : Int), rfl, rfl⟩) ev_int) rfl) fun _ => wv_and1 (tv_notb (tv_b (ev_nm 13))))) ?_ (ex_nil (ex_nil ⟨_, _, rfl⟩))
          by_cases hn : 0 < leastN c (wh : Int) ow (fa : Int)
          · have h1 := M.need c (wh : Int) ow (fa : Int) fit (by omega) (by omega) (by omega) (by omega) hne hn
            rw [gI_at hw, gI_at hf] at h1
            rw [decide_eq_true h1, Bool.not_true, Bool.and_false]
          · rw [decide_eq_false hn, Bool.false_and]
        · exact ex_nil (ex_nil ⟨_, _, rfl⟩)
      · rintro es' ⟨z6, z13, rfl⟩
        exact ex_nil ⟨_, _, _, _, rfl⟩
    · rintro es' ⟨z6, z11, z12, z13, rfl⟩
      exact ex_nil ⟨_, _, _, _, _, _, rfl⟩
  rintro es' ⟨z4, z6, z10, z11, z12, z13, rfl⟩
  -- mirror's mirror
  have mfit2 := M.mirFit _ mfit
  refine ex_no _ (Cv.tvb (cv_neD (dx := dC (mir (mir (mir c)))) (dy := dC (mir c)) (n := 3) hr (Ev.r (ev_callD (fn_mirror W) (hr.mono (by decide)) (ar_cons (ev_callD (fn_mirror W) (hr.mono (by decide)) (ar_cons (ev_nm 9) ar_nil) ⟨mir c, rfl, mfit, rfl⟩) ar_nil) ⟨mir (mir c), rfl, mfit2, rfl⟩)) (Ev.r (ev_nm 9)) (shp_dC _) (shp_dC _)) rfl) (by rw [M.mir3 c fit, eqv_dec (z := true) (noB_dC _) (noB_dC _) ⟨fun _ => rfl, fun _ => rfl⟩]; rfl) ?_
  -- early
  have bfit0 := M.bwFit c fit
  have bfit : (bw c).Fit := M.mirFit _ bfit0
  refine ex_set 14 hN (S := fun d => ∃ r, leastPost (bw c) r ∧ d = plD (bw c) r) (ev_callD (fn_earliest W) (hr.mono (by decide)) (ar_cons (ev_callD (fn_back W) (hr.mono (by decide)) (ar_cons (ev_nm 2) ar_nil) ⟨c, rfl, fit, bfit0, rfl⟩) ar_nil) ⟨bw c, rfl, bfit, fun r h => ⟨r, h, rfl⟩⟩) ?_
  rintro _ ⟨r, hr1, rfl⟩
  cases r with
  | none =>
    refine ex_if (A := Eq (isNon .none)) (Cv.tvb (cv_isN (ev_nm 14)) rfl) (fun _ => ?_) (fun z => nomatch z)
    exact ex_ret (Ev.imp (Cv.evb (cv_isN (d := .none) (Ev.imp (ev_callD (S := fun x => x = .none) (fn_earliest W) (hr.mono (by decide)) (ar_cons (ev_nm 2) ar_nil) ⟨c, rfl, fit, fun r h => by rw [M.none_ c r fit hr1 h]; rfl⟩) fun d e => e.symm)) rfl) fun d e => e.symm)
  | some x =>
    have hws : plD (bw c) (some x) = wD (planX c.eds x) := rfl
    rw [hws]
    obtain ⟨hf1, hf2⟩ := planX_few fit x
    have hfl : (planX c.eds x).flatten.length ≤ 1000 := by
      have := flat_len hf1 hf2
      omega
    have some' := fun k => M.some_ c x k fit hr1
    generalize planX c.eds x = ws at hf1 hf2 hfl some' ⊢
    refine ex_no _ (Cv.tvb (cv_isN (d := wD ws) (ev_nm 14)) rfl) rfl ?_
    -- most
    refine ex_set 15 hN (S := fun d => ∃ k : Int, 0 ≤ k ∧ k < 2 ∧ d = .int (mostK c ws k)) (ev_opI op_mul (A := Eq (.int c.p)) (B := fun d => ∃ k : Int, 0 ≤ k ∧ k < 2 ∧ d = .int ((maxI (0 :: ws.flatten) + c.p - 1) / c.p + k)) (ev_ixT (ev_nm 2).r ev_int rfl) (ev_opI0 op_add (A := Eq (.int ((maxI (0 :: ws.flatten) + c.p - 1) / c.p))) (B := Under 2) (ev_fdiv ⟨hp, by omega⟩ (ev_sub (ev_add (Ev.imp (ev_maxL (ns := 0 :: ws.flatten) rfl W.g.max (Ev.r (Ev.imp (ev_catL (ds := [.int 0]) (fs := ws.flatten.map .int) (Ev.r (ev_lst (evs_cons ev_int evs_nil))) (Ev.r (ev_callD (fn_flat W) (hr.mono (by decide)) (ar_cons (ev_nm 14) ar_nil) ⟨ws, rfl, hfl, rfl⟩)) (by rw [List.length_map]; exact sz (by show 1 + _ ≤ _; omega))) fun d e => by rw [← e]; rfl)) (List.cons_ne_nil _ _)) fun d e => by rw [← e, maxL_I]) (ev_ixT (ev_nm 2).r ev_int rfl)) ev_int) (ev_ixT (ev_nm 2).r ev_int rfl)) (ev_take 1 (fn_taken W) (hr.mono (by decide)) ev_int (by decide) (by decide)) fun x y q1 q2 => by
      obtain ⟨k, rfl, k0, k1⟩ := q2
      exact ⟨_, k, q1.symm, rfl, k, k0, k1, rfl⟩) fun x y q1 q2 => by
      obtain ⟨k, k0, k1, rfl⟩ := q2
      exact ⟨c.p, _, q1.symm, rfl, cm2 (by omega) (by omega), k, k0, k1, rfl⟩) ?_
    rintro _ ⟨k, k0, k1, rfl⟩
    obtain ⟨K0, hK⟩ := some' k k0 k1
    generalize mostK c ws k = Kk at K0 hK ⊢
    -- due
    refine ex_setD 13 (d := wD (dueW Kk ws)) hN (Ev.imp (ev_tupL W.g.tuple (Ev.r (ev_lc (own := [("_law_ticks", 18)]) (L := ws) (enc := dI) (c := fun _ => true) (f := fun l => dI (l.reverse.map fun v => Kk - v)) rfl hN (blkOk_by (by kernel_rfl)) (wk_tup (ev_nm 14)) (sz (by omega)) (fun l hl => ⟨[.unk, .row ns, .dat (dC c), .dat (.int t), z4, .dat (dI st), z6, .dat (dI ga), .dat (dI gb), .dat (dC (mir c)), z10, z11, z12, z13, .dat (wD ws), .dat (.int Kk), .unk, .unk, .dat (dI l)], fun s H c' cl fp => ⟨bd_nm 18 hN, tvs_nil, fun _ => ?_⟩⟩)))) fun d e => ?_) ?_
    · refine Ev.imp (ev_tupL W.g.tuple (Ev.r (ev_lc (own := [("_law_own", 6)]) (L := l.reverse) (enc := .int) (c := fun _ => true) (f := fun v => .int (Kk - v)) rfl hN (blkOk_by (by kernel_rfl)) (by
        rw [List.map_reverse]
        exact wk_tup (ev_rev (ev_nm 18))) (sz (by rw [List.length_reverse]; have := hf2 l hl; omega)) (fun v hv => ⟨[.unk, .row ns, .dat (dC c), .dat (.int t), z4, .dat (dI st), .dat (.int v), .dat (dI ga), .dat (dI gb), .dat (dC (mir c)), z10, z11, z12, z13, .dat (wD ws), .dat (.int Kk), .unk, .unk, .dat (dI l)], fun s H c' cl fp => ⟨bd_nm 6 hN, tvs_nil, fun _ => ev_sub (ev_nm 15) (ev_nm 6)⟩⟩)))) fun d e => ?_
      rw [← e, ft]
      unfold dI
      rw [List.map_map]
      rfl
    · rw [← e, ft]
      unfold dueW wD
      rw [List.map_map]
      rfl
    -- latest
    refine ex_no (decide (Kk < 60) && !true) (Wv.tv (wv_and (Cv.tvb (cv_lt (ev_nm 15) ev_int) rfl) fun h60 => wv_and1 (tv_notb (tv_b (ev_callD (S := Eq (.bool true)) (fn_alike W 2) (hr.mono (by decide)) (ar_cons (d := wD (dueW Kk ws)) (Ev.imp (ev_callD (S := fun x => x = wD (dueW Kk ws)) (fn_latest W) (hr.mono (by decide)) (ar_cons (ev_nm 2) (ar_cons (ev_add (ev_nm 15) ev_int) ar_nil)) ⟨c, Kk + 1, rfl, fit, by omega, by have := of_decide_eq_true h60; omega, fun r h => hK r (by rw [show Kk + 1 - 1 = Kk by omega] at h; exact h)⟩) fun d e => e.symm) (ar_cons (ev_nm 13) ar_nil)) ⟨_, rfl, alk_wD _ (by unfold dueW; rw [List.length_map]; omega) (fun l hl => by
      unfold dueW at hl
      obtain ⟨l', hl', rfl⟩ := List.mem_map.mp hl
      have := hf2 l' hl'
      rw [List.length_map, List.length_reverse]
      omega), rfl⟩))))) (by rw [Bool.not_true, Bool.and_false]) ?_
    -- wrong
    refine ex_setD 16 (d := dI (st.map fun v => v + 1)) hN (Ev.imp (ev_tupL W.g.tuple (Ev.r (ev_lc (own := [("_law_own", 6)]) (L := st) (enc := .int) (c := fun _ => true) (f := fun v => .int (v + 1)) rfl hN (blkOk_by (by kernel_rfl)) (wk_tup (ev_nm 5)) (sz (by omega)) (fun v hv => ⟨[.unk, .row ns, .dat (dC c), .dat (.int t), z4, .dat (dI st), .dat (.int v), .dat (dI ga), .dat (dI gb), .dat (dC (mir c)), z10, z11, z12, .dat (wD (dueW Kk ws)), .dat (wD ws), .dat (.int Kk), .unk, .unk, .unk], fun s H c' cl fp => ⟨bd_nm 6 hN, tvs_nil, fun _ => ev_add (ev_nm 6) ev_int⟩⟩)))) fun d e => by
      rw [← e, ft]
      unfold dI
      rw [List.map_map]
      rfl) ?_
    have hbad : ∀ d ∈ [PyData.none, dI (st.map fun v => v + 1), .tuple (st.map PyData.int ++ [.int 0])], BadD c d ∨ ∃ g, d = dI g ∧ StOk c g ∧ ∃ q ∈ goalL true st g, ¬ q.1 ≤ q.2 := fun d hd => by
      simp only [List.mem_cons, List.not_mem_nil, or_false] at hd
      rcases hd with rfl | rfl | rfl
      · exact .inl (.inl rfl)
      · by_cases hg : StOk c (st.map fun v => v + 1)
        · refine .inr ⟨_, rfl, hg, ?_⟩
          have h0 : 0 < st.length := by
            have := fit.ok.eds.one
            omega
          have h1 : st[0]? = some st[0] := List.getElem?_eq_getElem h0
          refine ⟨(st[0] + 1, st[0]), List.mem_of_getElem? (i := 0) (zip_at ?_ h1), ?_⟩
          · rw [List.getElem?_map, h1]
            rfl
          · show ¬ st[0] + 1 ≤ st[0]
            omega
        · refine .inl (.inr ⟨_, rfl, .inr ⟨by rw [List.length_map]; exact slen, ?_⟩⟩)
          refine Classical.byContradiction fun hno => hg ⟨by rw [List.length_map]; exact slen, fun i v e h1 h2 => ?_⟩
          exact Classical.byContradiction fun hb => hno ⟨i, v, e, h1, h2, hb⟩
      · refine .inl (.inr ⟨st ++ [0], ?_, .inl ?_⟩)
        · unfold dI
          rw [List.map_append]
          rfl
        · rw [List.length_append, slen]
          show c.eds.length + 1 ≠ _
          omega
    -- the wrong goals
    refine ex_tryE 17 hN W.bs rfl rfl (fun pn xe => exw_call (fnr_back W) (hr.mono (by decide)) (ar_consS (A := Eq (dC c)) (ev_nm 2) (ar_consS (A := Eq (.int t)) (ev_nm 3) (ar_consS (A := Eq (dI st)) (ev_nm 5) (ar_consS (A := fun d => BadD c d ∨ ∃ g, d = dI g ∧ StOk c g ∧ ∃ q ∈ goalL true st g, ¬ q.1 ≤ q.2) (ev_call (fn_pick W) (hr.mono (by decide)) (ar_row (ns := ns) 1 (ar_cons (d := .list [PyData.none, dI (st.map fun v => v + 1), .tuple (st.map PyData.int ++ [.int 0])]) (ev_lst (evs_cons ev_non (evs_cons (ev_nm 16) (evs_cons (ev_catT (ds := st.map .int) (fs := [.int 0]) (ev_nm 5) (ev_tup (evs_cons ev_int evs_nil)) (sz (by rw [List.length_map]; show _ + 1 ≤ _; omega))) evs_nil)))) ar_nil)) fun as h => by
      obtain ⟨r, e, q⟩ := h
      subst e
      subst q
      exact ⟨ns, _, rfl, List.cons_ne_nil _ _, by show 3 ≤ 1000; decide, hbad⟩) ar_nil)))) fun as h => by
      obtain ⟨_, _, rfl, e1, _, _, rfl, e2, _, _, rfl, e3, d, _, rfl, e4, e5⟩ := h
      subst e1 e2 e3 e5
      exact ⟨c, t, st, d, rfl, t0, t30, fit, sok, e4⟩) (fun a pn => ?_)
    refine ex_setD 16 (d := .none) hN ev_non (ex_nil ⟨rfl, ?_⟩)
    refine ex_tryE 17 hN W.bs rfl rfl (fun pn xe => exw_call (fnr_on W) (hr.mono (by decide)) (ar_cons (ev_nm 2) (ar_cons (ev_nm 3) (ar_cons (ev_nm 5) (ar_cons (ev_nm 16) ar_nil)))) fun as e => ⟨c, t, st, .none, e.symm, t0, t30, fit, sok, .inl (.inl rfl)⟩) (fun a pn => ?_)
    exact ex_ret (Ev.imp ev_bl fun d e => e.symm)
end
end DL
end
section
set_option Elab.async false
set_option linter.all false
set_option autoImplicit false
set_option maxRecDepth 100000
set_option maxHeartbeats 8000000
/-! The law's promise; the head's end. -/
namespace DL
open PySem PySem.Spec L2
open PyProof.Rows hiding St
open MA
section
variable {T : Addr → Prop} {P : Program} {w : World} {K : PySem.W.Frag} {mg : Str → Option Value} {base : Heap}
open LHead
def spLaw (T : Addr → Prop) (K : PySem.W.Frag) : Sp := fun vs H Q _ => ∃ (a : Addr) (ns : List Int), vs = [.ref a] ∧ ns.length ≤ 63 ∧ (∀ t, T t → GxR.TabG H t) ∧ SqL K H a (ns.map V.int) ∧ ∀ H', Q (.bl true) H'
theorem fn_law (W : Wd T K mg base) (M : LawMath) {fd : FuncData} (F : FunD K d_law.name d_law.qual d_law.params d_law.body d_law.scope (He.DefD.dvs K d_law) [] (He.fAd K d_law.at_) fd) : FnOk P w K mg base CX0 10 (He.fAd K d_law.at_) fd ["_law_script"] (spLaw T K) := by
  have hN : lawN.Nodup := by decide +kernel
  have S : FnScope lawN ["_law_script"] d_law.scope := ⟨rfl, rfl, rfl, by decide +kernel, rfl, by decide +kernel, by decide +kernel⟩
  refine F.ok S (fun vs H Q E h => ?_) (fun cdv A outer s H vs Q E hr h => ?_)
  · obtain ⟨a, ns, rfl, _⟩ := h
    rfl
  obtain ⟨a, ns, rfl, hl, hT, hS, hQ⟩ := h
  refine ⟨_, PSs.nox (X := cxOf CX0 P w K mg base lawN d_law.qual d_law.scope (He.fAd K d_law.at_) cdv A outer s H E) pss_w, ?_⟩
  show wS (cX P w K mg base lawN d_law.qual d_law.scope (He.fAd K d_law.at_) cdv A outer s H E) (defBody st_law) _ _ _
  refine wS_of (pss_cons (ps_set (i := 1) hN rfl (by exact Or.inr rfl) (pe_lst (pa_cons (pv 0 rfl (.inl rfl)) (pa_cons pe_int (pa_cons pe_int (pa_cons pe_int pa_nil))))) rfl (by exact .inl rfl)) pss_w) ?_
  refine ⟨_, rfl, by show 4 ≤ sizeLine; decide, fun q hq => ?_⟩
  have B := law_body (P := P) (w := w) (base := base) W M cdv A outer s H E hr ns
  have ne : ∀ t, T t → t ≠ q := fun t ht e => by
    obtain ⟨ps, h1, _⟩ := hT t ht
    rw [e, hq] at h1
    cases h1
  refine B ⟨fun _ => False, fun _ => False, fun b => b = q⟩ (L2.upd H q (.lst [.ref a, .int 0, .int 7367, .int 0])) _ _ ⟨fun b hb => ?_, fun t ht => ?_, fun b z => z.elim, fun b z => z.elim, fun b xs hb e => ?_⟩ ⟨rfl, fun i e he => ?_, fun i j b ne h1 h2 e1 => ?_⟩ ⟨fun _ _ _ _ _ z => z.elim, fun d v p' H' st hd rv => ?_, fun _ _ _ _ _ z => z.elim, fun _ _ _ _ _ z => z.elim⟩
  · rcases hb with z | z | z
    · exact z.elim
    · exact z.elim
    · rw [show b = q from z]
      exact ⟨_, upd_same⟩
  · obtain ⟨ps, h1, h2⟩ := hT t ht
    exact ⟨ps, by rw [upd_ne (ne t ht)]; exact h1, h2⟩
  · rcases hb with z | z | z
    · exact z.elim
    · exact z.elim
    · rw [show b = q from z, upd_same] at e
      cases e
  · match i with
    | 0 => cases Option.some.inj he; trivial
    | 1 =>
      cases Option.some.inj he
      refine ⟨q, _, a, rfl, rfl, upd_same, ⟨0, 7367, 0, rfl, by decide, by decide, by decide⟩, ?_, hl⟩
      rcases hS with h | ⟨o, its, n, hk, hr2⟩
      · refine .inl ⟨fun z => ?_, ?_⟩
        · rcases z with z | z | z
          · exact z
          · exact z
          · rw [show a = q from z] at h
            rcases h with h | ⟨o, h⟩ <;> (rw [hq] at h; cases h)
        · have haq : a ≠ q := fun z => by
            rw [z] at h
            rcases h with h | ⟨o, h⟩ <;> (rw [hq] at h; cases h)
          rcases h with h | ⟨o, h⟩
          · exact .inl (by rw [upd_ne haq]; exact h)
          · exact .inr ⟨o, by rw [upd_ne haq]; exact h⟩
      · exact .inr (.inr ⟨o, its, n, hk, hr2⟩)
    | 2 | 3 | 4 | 5 | 6 | 7 | 8 | 9 | 10 | 11 | 12 | 13 | 14 | 15 | 16 | 17 | 18 => cases Option.some.inj he; trivial
    | i + 19 => cases he
  · obtain ⟨e, he, ho⟩ := h1
    match i with
    | 0 => cases Option.some.inj he; exact ho.elim
    | 1 => cases Option.some.inj he; exact ho.elim
    | 2 | 3 | 4 | 5 | 6 | 7 | 8 | 9 | 10 | 11 | 12 | 13 | 14 | 15 | 16 | 17 | 18 => cases Option.some.inj he; exact ho.elim
    | i + 19 => cases he
  · cases (show d = PyData.bool true from hd)
    cases rv
    · exact hQ H'
    · rename_i e
      cases e
end
end DL
namespace LHead
open PySem PySem.Spec PyProof.Rows L2
theorem fn_glo : fn.map (fun d => He.Fa.glo d.name) = fa.take 54 := rfl
theorem fn_at : fn.map (fun d => d.at_) = fn.map (fun d => (d.name, none)) := rfl
theorem fn_kwd : ∀ d ∈ fn, d.kwd = [] := by
  have h : fn.all (fun d => d.kwd.isEmpty) = true := rfl
  intro d hd
  exact List.isEmpty_iff.mp (List.all_eq_true.mp h d hd)
section
variable {K : PySem.W.Frag} {h : Heap} {mg : Str → Option Value}
def lawT (K : PySem.W.Frag) (a : Addr) : Prop := ∃ p ∈ tf, a = (He.cT K p).2
theorem nil_sq {a : Addr} (q : nilT K a = true) : SqT K DL.H0 a [] := by
  unfold nilT at q
  split at q
  · rename_i n od its m sl hk
    rw [Bool.and_eq_true, decide_eq_true_iff] at q
    obtain ⟨e1, e2⟩ := q
    have e3 : its = #[] := by simpa using e2
    subst e1 e3
    exact .inr ⟨_, #[], m, hk, rfl, rfl, Nat.zero_le _, .nil⟩
  · cases q
theorem wd {w : World} {base : Heap} (X : K.In h) (G : h.Ns mainGlobals mg) (c : He.SaysX fa fn [] tf ex w h K) (tb : ∀ p ∈ tf, GxR.TabB base mg (He.cT K p).1 (He.cT K p).2) : DL.Wd (lawT K) K mg base where
  g := by
    have fr : ∀ (i : Nat) {x : Str}, fa[i]? = some (.free x) → mg x = none := fun i x e => He.free_ok X G (c.t.d.fact i e)
    have it : ∀ (i : Nat) {x : Str} {v : Int}, fa[i]? = some (.int x v) → ∃ t, mg x = some (.int v t) := fun i x v e => He.int_ok X G (c.t.d.fact i e)
    exact ⟨fr 59 rfl, fr 60 rfl, fr 61 rfl, fr 62 rfl, fr 63 rfl, fr 64 rfl, fr 65 rfl, fr 66 rfl, fr 67 rfl, fr 68 rfl, fr 69 rfl, fr 70 rfl, fr 71 rfl, fr 72 rfl, fr 73 rfl, fr 74 rfl, fr 75 rfl, it 76 rfl, it 77 rfl, it 78 rfl, it 79 rfl, it 80 rfl, it 81 rfl⟩
  dv := fun i d hd => by
    obtain ⟨fd, F⟩ := c.t.d.def_ i hd
    have hm := List.mem_of_getElem? hd
    have e1 : d.kws K = [] := by
      unfold He.DefD.kws
      rw [fn_kwd d hm]
      rfl
    rw [e1] at F
    have e2 : fa[i]? = some (.glo d.name) := by
      have h1 : (fn.map fun d => He.Fa.glo d.name)[i]? = some (.glo d.name) := by rw [List.getElem?_map, hd]; rfl
      rw [fn_glo, List.getElem?_take] at h1
      split at h1
      · exact h1
      · cases h1
    have e3 : d.at_ = (d.name, none) := by
      have h1 : (fn.map fun d => d.at_)[i]? = some d.at_ := by rw [List.getElem?_map, hd]; rfl
      rw [fn_at, List.getElem?_map, hd] at h1
      exact (Option.some.inj h1).symm
    have e4 : mg d.name = some (.ref (He.fAd K d.at_)) := by
      rw [e3]
      exact He.glo_ok X G (c.t.d.fact i e2)
    exact ⟨fd, e4, F⟩
  tb := fun i p hp => ⟨⟨p, List.mem_of_getElem? hp, rfl⟩, tb p (List.mem_of_getElem? hp)⟩
  z1 := by
    have q := c.more
    unfold ex at q
    simp only [Bool.and_eq_true] at q
    exact nil_sq q.1.1.1
  z2 := by
    have q := c.more
    unfold ex at q
    simp only [Bool.and_eq_true] at q
    exact nil_sq q.1.1.2.1
  z3 := by
    have q := c.more
    unfold ex at q
    simp only [Bool.and_eq_true] at q
    exact nil_sq q.1.1.2.2
  bs := by
    have q := c.more
    unfold ex at q
    simp only [Bool.and_eq_true, decide_eq_true_iff] at q
    exact ⟨He.glo_ok X G (c.t.d.fact 58 (f := .glo "BadStanding") rfl), q.1.2, q.2.1, q.2.2.1, q.2.2.2.1, q.2.2.2.2⟩
end
end LHead
open PySem PySem.W PySem.Calls PyProof.Rows
theorem law_holds (M : DL.LawMath) : PySem.Challenge.rw_livingclock_k67_whole_backs.Holds := by
  w_on; o_law
  refine HandSHeadRun.head_any (r := OpenLaw.row PySem.Challenge.rw_livingclock_k67_whole_backs) (q := view (OpenLaw.row PySem.Challenge.rw_livingclock_k67_whole_backs).prog [73]) (H := LHead.hk) (ob := LHead.ob) (M := 6000) (loose := LHead.loose) (d := HandSHeadRun.topDef (OpenLaw.row PySem.Challenge.rw_livingclock_k67_whole_backs).prog 73) (kwd := []) LHead.ob_eq
    (by kernel_rfl) (fun s => by kernel_rfl) LHead.run (by kernel_rfl) (by kernel_rfl) (by kernel_rfl) (by rfl) (by first | assumption | decide +kernel) (by decide +kernel) ⟨rfl, rfl, rfl, rfl, rfl, by decide +kernel⟩ ?hw ?hc
  case hw => w_witness2
  case hc =>
    refine LamX.walk_ofTsE (l := PySem.Challenge.rw_livingclock_k67_whole_backs) (n := 63) (k := 10) (x := "_law_script") (CX := fun _ => L2.CX0) rfl (by decide) (by kernel_rfl) ⟨rfl, by decide, by decide⟩ ?F (fun _ _ _ _ _ z => z)
    intro w mg fa h Y G hmg0
    obtain ⟨K, KX, c⟩ := Y
    have hmg : mg ("law" : PySem.Str) = some (.ref fa) := by
      have e : (HandSHeadRun.topDef (OpenLaw.row PySem.Challenge.rw_livingclock_k67_whole_backs).prog 73).name = ("law" : PySem.Str) := by kernel_rfl
      rw [← e]
      exact hmg0
    have e0 : mg ("law" : PySem.Str) = some (.ref (He.fAd K LHead.d_law.at_)) := He.glo_ok KX G (c.t.d.fact 53 (f := .glo "law") rfl)
    have ef : fa = He.fAd K LHead.d_law.at_ := by
      rw [hmg] at e0
      cases e0
      rfl
    obtain ⟨fd, F⟩ := c.t.d.def_ 53 (d := LHead.d_law) rfl
    refine ⟨K, KX, fd, LHead.tf.map fun p => He.cT K p, DL.spLaw (LHead.lawT K) K, fun p hp => ?_, fun p hp => ?_, fun p hp => ?_, ?_, fun H a ns hl _ hT hS => ⟨a, ns, rfl, hl, fun t ht => ?_, hS, fun _ => rfl⟩, fun base hb hn htb => ?_⟩
    · obtain ⟨q, hq, rfl⟩ := List.mem_map.mp hp
      exact c.empty q hq
    · obtain ⟨q, hq, rfl⟩ := List.mem_map.mp hp
      exact c.out q hq
    · obtain ⟨q, hq, rfl⟩ := List.mem_map.mp hp
      exact codeHd_of_K KX (c.hd q hq)
    · exact fun s v => L2.FunD.bindsA (ps := ["_law_script"]) F (fun _ _ _ _ _ _ us hl => match us, hl with | [_], _ => rfl) s [v] rfl
    · obtain ⟨q, hq, rfl⟩ := ht
      exact ⟨#[], hT _ (List.mem_map.mpr ⟨q, hq, rfl⟩), trivial⟩
    · have W := LHead.wd (w := w) (base := base) KX G c fun p hp => by
        have t := htb _ (List.mem_map.mpr ⟨p, hp, rfl⟩)
        exact ⟨t.code, t.bm, t.gP⟩
      subst ef
      exact DL.fn_law W M F
end
section
set_option Elab.async false
set_option linter.all false
set_option autoImplicit false
set_option maxRecDepth 100000
set_option maxHeartbeats 2000000
/-! Plain: the mirror. -/
namespace MA
open DL (KD encT lkD)
theorem srt_le (p q : List Int) : PySem.W.dataLe false encT p q = decide (p ≤ q) := by
  show (!PySem.W.dataLt (.tuple (q.map .int)) (.tuple (p.map .int))) = _
  rw [PySem.W.dataLt_tuple]
  show (!PySem.W.rowLt (q.map .int) (p.map .int)) = _
  rw [PySem.W.dataLt_ints]
  by_cases h : q < p
  · have h' : ¬ p ≤ q := fun r => List.not_lt.mpr r h
    simp [h, h']
  · have h' : p ≤ q := List.not_lt.mp h
    simp [h, h']
theorem srtK_pw (l : List (List Int)) : (srtK l).Pairwise fun p q => p ≤ q := by
  have h := List.pairwise_mergeSort (le := PySem.W.dataLe false encT) (fun a b c h1 h2 => by
    rw [srt_le, decide_eq_true_iff] at h1 h2 ⊢
    exact List.le_trans h1 h2) (fun a b => by
    rw [srt_le, srt_le, Bool.or_eq_true, decide_eq_true_iff, decide_eq_true_iff]
    exact List.le_total a b) l
  exact h.imp fun {a b} h => by
    rw [srt_le, decide_eq_true_iff] at h
    exact h
theorem srtK_mem {l : List (List Int)} {x : List Int} : x ∈ srtK l ↔ x ∈ l := List.mem_mergeSort
theorem lex3_of {a b c a' b' c' : Int} (h : ([a, b, c] : List Int) ≤ [a', b', c']) (hn : ([a, b, c] : List Int) ≠ [a', b', c']) : lex3 (a, b, c) (a', b', c') := by
  have h1 : ¬ ([a', b', c'] : List Int) < [a, b, c] := List.not_lt.mpr h
  simp only [List.cons_lt_cons_iff, List.not_lt_nil] at h1
  have h2 : ¬ (a = a' ∧ b = b' ∧ c = c') := fun ⟨x, y, z⟩ => hn (by rw [x, y, z])
  unfold lex3 lex2
  show a < a' ∨ (a = a' ∧ (b < b' ∨ (b = b' ∧ c < c')))
  omega
theorem srtK_lex {l : List (List Int)} (hn : l.Nodup) (h3 : ∀ k ∈ l, ∃ x y z, k = [x, y, z]) : ((srtK l).map T3).Pairwise lex3 := by
  rw [List.pairwise_map]
  have hn' : (srtK l).Nodup := (List.mergeSort_perm l _).nodup_iff.mpr hn
  refine ((srtK_pw l).and hn').imp_of_mem fun {p q} hp hq h => ?_
  obtain ⟨a, b, c, rfl⟩ := h3 p (srtK_mem.mp hp)
  obtain ⟨a', b', c', rfl⟩ := h3 q (srtK_mem.mp hq)
  exact lex3_of h.1 h.2
def flp (eds : List Int) (b : Int × Int × Int × Int) : Int × Int × Int × Int := (b.2.2.1, gI eds b.2.2.1 - b.2.2.2 + 1, b.1, gI eds b.1 - b.2.1 + 1)
theorem flp_flp (eds : List Int) (b : Int × Int × Int × Int) : flp eds (flp eds b) = b := by
  obtain ⟨w, e, o, l⟩ := b
  unfold flp
  show (w, gI eds w - (gI eds w - e + 1) + 1, o, gI eds o - (gI eds o - l + 1) + 1) = (w, e, o, l)
  rw [show gI eds w - (gI eds w - e + 1) + 1 = e by omega, show gI eds o - (gI eds o - l + 1) + 1 = l by omega]
theorem flp_inj {eds : List Int} {b b' : Int × Int × Int × Int} (h : flp eds b = flp eds b') : b = b' := by
  rw [← flp_flp eds b, h, flp_flp]
theorem key3_mkey {c : Clk} {b : Int × Int × Int × Int} : T3 (mkey c b) = key3 (flp c.eds b) := rfl
theorem mkey_inj {c : Clk} {b b' : Int × Int × Int × Int} (h : key3 (flp c.eds b) = key3 (flp c.eds b')) : mkey c b = mkey c b' := by
  unfold key3 at h
  injection h with h1 h2
  injection h2 with h2 h3
  unfold mkey
  unfold flp at h1 h2 h3
  rw [h1] at h2 ⊢
  rw [h3]
  have h2' : gI c.eds b'.2.2.1 - b.2.2.2 + 1 = gI c.eds b'.2.2.1 - b'.2.2.2 + 1 := h2
  rw [h2']
theorem mir_row {c : Clk} (ok : BkOk c.eds c.bk) {k : List Int} (hk : k ∈ (mirL c c.bk).map (·.1)) : ∃ b1 ∈ c.bk, mkey c b1 = k ∧ mirRow (mirL c c.bk) k = flp c.eds b1 ∧ ∀ b' ∈ c.bk, mkey c b' = k → mval c b' ≤ mval c b1 := by
  have I := mir_I ok
  obtain ⟨b0, h0, e0⟩ := I.key k hk
  obtain ⟨v, hv⟩ := I.has b0 h0
  rw [e0] at hv
  obtain ⟨⟨b1, h1, e1, v1⟩, hm⟩ := I.some_ k v hv
  refine ⟨b1, h1, e1, ?_, fun b' hb' e' => by rw [v1]; exact hm b' hb' e'⟩
  unfold mirRow
  rw [hv, ← e1, ← v1]
  rfl
theorem mem_mir {c : Clk} (ok : BkOk c.eds c.bk) {b : Int × Int × Int × Int} : b ∈ (mir c).bk ↔ flp c.eds b ∈ c.bk ∧ ∀ b' ∈ c.bk, key3 (flp c.eds b') = key3 b → (flp c.eds b').2.2.2 ≤ b.2.2.2 := by
  show b ∈ mirBk c ↔ _
  unfold mirBk
  rw [List.mem_map]
  constructor
  · rintro ⟨k, hk, rfl⟩
    obtain ⟨b1, h1, e1, e2, hm⟩ := mir_row ok (srtK_mem.mp hk)
    rw [e2, flp_flp]
    exact ⟨h1, fun b' hb' e' => hm b' hb' (by rw [← e1]; exact mkey_inj e')⟩
  · rintro ⟨h, hm⟩
    have I := mir_I ok
    obtain ⟨v, hv⟩ := I.has _ h
    have hk : mkey c (flp c.eds b) ∈ (mirL c c.bk).map (·.1) := List.mem_map.mpr ⟨_, lkD_mem hv, rfl⟩
    refine ⟨_, srtK_mem.mpr hk, ?_⟩
    obtain ⟨b1, h1, e1, e2, hmax⟩ := mir_row ok hk
    rw [e2]
    have a1 : key3 (flp c.eds b1) = key3 b := by
      rw [← key3_mkey, e1, key3_mkey, flp_flp]
    have a2 := hm b1 h1 a1
    have a3 := hmax _ h rfl
    have a4 : b.2.2.2 ≤ (flp c.eds b1).2.2.2 := by
      have : mval c (flp c.eds b) = (flp c.eds (flp c.eds b)).2.2.2 := rfl
      rw [flp_flp] at this
      rw [← this]
      exact a3
    have a5 : (flp c.eds b1).2.2.2 = b.2.2.2 := by omega
    unfold key3 at a1
    injection a1 with q1 q2
    injection q2 with q2 q3
    exact Prod.ext q1 (Prod.ext q2 (Prod.ext q3 a5))
theorem mirFit (c : Clk) (fit : c.Fit) : (mir c).Fit where
  t := fit.t
  b := by
    show (mirBk c).length ≤ 1000
    unfold mirBk srtK
    rw [List.length_map, List.length_mergeSort, List.length_map]
    exact Nat.le_trans (mirL_len c c.bk) fit.b
  ok := ⟨fit.ok.p1, fit.ok.p2, fit.ok.eds, fit.ok.tch, fit.ok.gps, ⟨fun b hb => by
    have h := fit.ok.bk.num _ ((mem_mir fit.ok.bk).mp hb).1
    obtain ⟨w, e, o, l⟩ := b
    unfold flp at h
    have h : 0 ≤ o ∧ o ≤ (c.eds.length : Int) - 1 ∧ 1 ≤ gI c.eds o - l + 1 ∧ gI c.eds o - l + 1 ≤ gI c.eds o ∧ 0 ≤ w ∧ w ≤ (c.eds.length : Int) - 1 ∧ o ≠ w ∧ 1 ≤ gI c.eds w - e + 1 ∧ gI c.eds w - e + 1 ≤ gI c.eds w := h
    show 0 ≤ w ∧ w ≤ (c.eds.length : Int) - 1 ∧ 1 ≤ e ∧ e ≤ gI c.eds w ∧ 0 ≤ o ∧ o ≤ (c.eds.length : Int) - 1 ∧ w ≠ o ∧ 1 ≤ l ∧ l ≤ gI c.eds o
    exact ⟨h.2.2.2.2.1, h.2.2.2.2.2.1, by omega, by omega, h.1, h.2.1, fun z => h.2.2.2.2.2.2.1 z.symm, by omega, by omega⟩, by
    show ((mirBk c).map key3).Pairwise lex3
    unfold mirBk
    rw [List.map_map]
    have I := mir_I fit.ok.bk
    exact srtK_lex I.nodup fun k hk => by
      obtain ⟨b, _, rfl⟩ := I.key k hk
      exact ⟨_, _, _, rfl⟩⟩⟩
theorem lex3_irr {a : Int × Int × Int} : ¬ lex3 a a := by
  unfold lex3 lex2
  omega
theorem lex3_asym {a b : Int × Int × Int} (h : lex3 a b) : ¬ lex3 b a := by
  unfold lex3 lex2 at *
  omega
/-- the key says the entry -/
theorem BkOk.uniq {eds : List Int} {l : List (Int × Int × Int × Int)} (ok : BkOk eds l) {b b' : Int × Int × Int × Int} (h : b ∈ l) (h' : b' ∈ l) (e : key3 b = key3 b') : b = b' := by
  have up := ok.up
  rw [List.pairwise_map] at up
  obtain ⟨i, hi, rfl⟩ := List.getElem_of_mem h
  obtain ⟨j, hj, rfl⟩ := List.getElem_of_mem h'
  rcases Nat.lt_trichotomy i j with z | z | z
  · have := List.pairwise_iff_getElem.mp up i j hi hj z
    rw [e] at this
    exact absurd this lex3_irr
  · subst z
    rfl
  · have := List.pairwise_iff_getElem.mp up j i hj hi z
    rw [e] at this
    exact absurd this lex3_irr
theorem eq_of_pw {α : Type} {R : α → α → Prop} (as : ∀ {a b}, R a b → ¬ R b a) : ∀ {l m : List α}, l.Pairwise R → m.Pairwise R → (∀ x, x ∈ l ↔ x ∈ m) → l = m
  | [], [], _, _, _ => rfl
  | [], y :: m, _, _, h => nomatch (h y).mpr List.mem_cons_self
  | x :: l, [], _, _, h => nomatch (h x).mp List.mem_cons_self
  | x :: l, y :: m, h1, h2, h => by
    obtain ⟨a1, a2⟩ := List.pairwise_cons.mp h1
    obtain ⟨b1, b2⟩ := List.pairwise_cons.mp h2
    have e : x = y := by
      rcases List.mem_cons.mp ((h x).mp List.mem_cons_self) with z | z
      · exact z
      · rcases List.mem_cons.mp ((h y).mpr List.mem_cons_self) with w | w
        · exact w.symm
        · exact absurd (a1 y w) (as (b1 x z))
    subst e
    have ir : ¬ R x x := fun q => as q q
    have := eq_of_pw (R := R) as a2 b2 fun z => by
      constructor
      · intro hz
        rcases List.mem_cons.mp ((h z).mp (List.mem_cons_of_mem _ hz)) with w | w
        · exact absurd (a1 z hz) (by rw [w]; exact ir)
        · exact w
      · intro hz
        rcases List.mem_cons.mp ((h z).mpr (List.mem_cons_of_mem _ hz)) with w | w
        · exact absurd (b1 z hz) (by rw [w]; exact ir)
        · exact w
    rw [this]
theorem BkOk.ext {eds : List Int} {l m : List (Int × Int × Int × Int)} (h1 : BkOk eds l) (h2 : BkOk eds m) (h : ∀ x, x ∈ l ↔ x ∈ m) : l = m :=
  eq_of_pw (R := fun a b => lex3 (key3 a) (key3 b)) lex3_asym (List.pairwise_map.mp h1.up) (List.pairwise_map.mp h2.up) h
/-- an entry's other key says the entry -/
def Inj (c : Clk) : Prop := ∀ b ∈ c.bk, ∀ b' ∈ c.bk, key3 (flp c.eds b) = key3 (flp c.eds b') → b = b'
theorem mir_inj {c : Clk} (fit : c.Fit) : Inj (mir c) := fun b hb b' hb' e =>
  flp_inj (eds := c.eds) (fit.ok.bk.uniq ((mem_mir fit.ok.bk).mp hb).1 ((mem_mir fit.ok.bk).mp hb').1 e)
theorem mem_mirI {c : Clk} (fit : c.Fit) (i : Inj c) {b : Int × Int × Int × Int} : b ∈ (mir c).bk ↔ flp c.eds b ∈ c.bk := by
  rw [mem_mir fit.ok.bk]
  refine ⟨fun h => h.1, fun h => ⟨h, fun b' hb' e => ?_⟩⟩
  have := i b' hb' _ h (by rw [flp_flp]; exact e)
  rw [this, flp_flp]
  exact Int.le_refl _
theorem mir3 (c : Clk) (fit : c.Fit) : mir (mir (mir c)) = mir c := by
  have f1 := mirFit c fit
  have f2 := mirFit _ f1
  have f3 := mirFit _ f2
  have e : (mir (mir (mir c))).bk = (mir c).bk := BkOk.ext (eds := c.eds) f3.ok.bk f1.ok.bk fun b => by
    rw [mem_mirI f2 (mir_inj f1), mem_mirI f1 (mir_inj fit)]
    show flp c.eds (flp c.eds b) ∈ _ ↔ _
    rw [flp_flp]
  have e' : mirBk (mir (mir c)) = mirBk c := e
  show ({ mir (mir c) with bk := mirBk (mir (mir c)) } : Clk) = { c with bk := mirBk c }
  rw [e']
  rfl
theorem mir_above {c : Clk} (ok : BkOk c.eds c.bk) {b : Int × Int × Int × Int} (hb : b ∈ c.bk) : ∃ E, (b.2.2.1, gI c.eds b.2.2.1 - b.2.2.2 + 1, b.1, E) ∈ (mir c).bk ∧ gI c.eds b.1 - b.2.1 + 1 ≤ E := by
  have I := mir_I ok
  obtain ⟨v, hv⟩ := I.has _ hb
  have hk : mkey c b ∈ (mirL c c.bk).map (·.1) := List.mem_map.mpr ⟨_, lkD_mem hv, rfl⟩
  obtain ⟨b1, h1, e1, e2, hmax⟩ := mir_row ok hk
  refine ⟨v, ?_, ((I.some_ _ _ hv).2 b hb rfl)⟩
  show _ ∈ mirBk c
  unfold mirBk
  refine List.mem_map.mpr ⟨_, srtK_mem.mpr hk, ?_⟩
  unfold mirRow
  rw [hv]
  rfl
theorem need_law (c : Clk) (w e o : Int) (fit : c.Fit) (h0 : 0 ≤ w) (h1 : w < c.eds.length) (h2 : 0 ≤ o) (h3 : o < c.eds.length) (hne : o ≠ w) (h : 0 < leastN c w e o) : gI c.eds w - e + 1 ≤ leastN (mir c) o (gI c.eds o - leastN c w e o + 1) w := by
  obtain ⟨b, hb, e1, e2, e3, e4⟩ := leastN_asks (c := c) (w := w) (e := e) (o := o) (by omega)
  obtain ⟨E, hE, hle⟩ := mir_above fit.ok.bk hb
  have : E ≤ leastN (mir c) o (gI c.eds o - leastN c w e o + 1) w := asks_le ⟨_, hE, e2, e1, by
    show gI c.eds b.2.2.1 - b.2.2.2 + 1 ≤ _
    rw [e2, e4]
    exact Int.le_refl _, rfl⟩
  rw [e1] at hle
  omega
end MA
end
section
set_option Elab.async false
set_option linter.all false
set_option autoImplicit false
set_option maxRecDepth 100000
set_option maxHeartbeats 2000000
/-! Plain: what goes is what is closed. -/
namespace MA
open DL (Goes Leans)
theorem phases_comm (c : Clk) (a b : Int) : phases c a b = phases c b a := by
  unfold phases
  rw [Int.min_comm, Int.max_comm]
theorem touch_comm (c : Clk) (a b u : Int) : atTouch c a b u = atTouch c b a u := by
  unfold atTouch
  rw [phases_comm]
theorem touch_iff {c : Clk} {a b u : Int} : atTouch c a b u = true ↔ (u % c.p, min a b, max a b) ∈ c.tch := by
  unfold atTouch phases
  rw [decide_eq_true_iff, List.mem_map]
  constructor
  · rintro ⟨t, ht, e⟩
    obtain ⟨h1, h2⟩ := List.mem_filter.mp ht
    have h3 := of_decide_eq_true h2
    have : t = (u % c.p, min a b, max a b) := Prod.ext e h3
    rw [← this]
    exact h1
  · intro h
    exact ⟨_, List.mem_filter.mpr ⟨h, decide_eq_true rfl⟩, rfl⟩
theorem touch_ne {c : Clk} {a b u : Int} (h : atTouch c a b u = true) : phases c a b ≠ [] := fun e => by
  unfold atTouch at h
  rw [e] at h
  simp at h
theorem okAt_iff {c : Clk} (fit : c.Fit) {h : List Int} {now : Int} (hh : ∀ v : Int, 0 ≤ v → v < c.eds.length → 0 ≤ gI h v) : okAt c h now ↔ ∀ b ∈ c.bk, atTouch c b.1 b.2.2.1 now = true → b.2.1 ≤ gI h b.1 → b.2.2.2 ≤ gI h b.2.2.1 := by
  constructor
  · intro H b hb ht he
    have H1 := H _ (touch_iff.mp ht) rfl
    have hn := (fit.ok.bk.num b hb).2.2.2.2.2.2.1
    rcases Int.lt_or_lt_of_ne hn with q | q
    · have e1 : min b.1 b.2.2.1 = b.1 := by omega
      have e2 : max b.1 b.2.2.1 = b.2.2.1 := by omega
      have H2 := H1.1
      simp only [e1, e2] at H2
      have := asks_le (c := c) ⟨b, hb, rfl, rfl, he, rfl⟩
      omega
    · have e1 : min b.1 b.2.2.1 = b.2.2.1 := by omega
      have e2 : max b.1 b.2.2.1 = b.1 := by omega
      have H2 := H1.2
      simp only [e1, e2] at H2
      have := asks_le (c := c) ⟨b, hb, rfl, rfl, he, rfl⟩
      omega
  · intro H tc ht e
    obtain ⟨ph, a, b⟩ := tc
    obtain ⟨n1, n2, n3, n4, n5, n6⟩ := fit.ok.tch.num _ ht
    have n3 : 0 ≤ a := n3
    have n4 : a ≤ (c.eds.length : Int) - 1 := n4
    have n5 : a + 1 ≤ b := n5
    have n6 : b ≤ (c.eds.length : Int) - 1 := n6
    have e1 : min a b = a := by omega
    have e2 : max a b = b := by omega
    have e : ph = now % c.p := e
    have t1 : atTouch c a b now = true := touch_iff.mpr (by rw [e1, e2, ← e]; exact ht)
    have t2 : atTouch c b a now = true := by rw [touch_comm]; exact t1
    refine ⟨leastN_iff.mpr ⟨hh b (by omega) (by omega), fun n ⟨x, hx, q1, q2, q3, q4⟩ => ?_⟩, leastN_iff.mpr ⟨hh a (by omega) (by omega), fun n ⟨x, hx, q1, q2, q3, q4⟩ => ?_⟩⟩
    · have := H x hx (by rw [q1, q2]; exact t1) (by rw [q1]; exact q3)
      rw [q2, q4] at this
      exact this
    · have := H x hx (by rw [q1, q2]; exact t2) (by rw [q1]; exact q3)
      rw [q2, q4] at this
      exact this
def cnt (l : List Int) (now : Int) : Nat := (l.filter fun x => decide (x ≤ now)).length
theorem cnt_le (l : List Int) (now : Int) : cnt l now ≤ l.length := List.length_filter_le _ _
theorem cnt_iff {now : Int} : ∀ {l : List Int}, l.Pairwise (· < ·) → ∀ {k : Nat} {x : Int}, l[k]? = some x → (x ≤ now ↔ k < cnt l now)
  | [], _, k, x, h => by simp at h
  | y :: l, hp, k, x, h => by
    obtain ⟨h1, h2⟩ := List.pairwise_cons.mp hp
    by_cases q : y ≤ now
    · have e : cnt (y :: l) now = cnt l now + 1 := by
        unfold cnt
        rw [List.filter_cons_of_pos (by simpa using q), List.length_cons]
      rw [e]
      cases k with
      | zero =>
        have : y = x := by simpa using h
        omega
      | succ k =>
        have h : l[k]? = some x := by simpa using h
        have := cnt_iff (now := now) h2 h
        omega
    · have e : cnt (y :: l) now = 0 := by
        unfold cnt
        rw [List.length_eq_zero_iff, List.filter_eq_nil_iff]
        intro z hz
        rcases List.mem_cons.mp hz with w | w
        · rw [w]; simpa using q
        · have := h1 z w
          simp
          omega
      have : y ≤ x := by
        cases k with
        | zero =>
          have : y = x := by simpa using h
          omega
        | succ k =>
          have h : l[k]? = some x := by simpa using h
          have := h1 x (List.mem_of_getElem? h)
          omega
      omega
theorem gL_get {l : List (List Int)} {v : Int} (h0 : 0 ≤ v) (h1 : v < l.length) : l[v.toNat]? = some (gL l v) := by
  have h : v.toNat < l.length := by omega
  unfold gL
  rw [List.getD_eq_getElem?_getD, List.getElem?_eq_getElem h]
  rfl
theorem gL_at {l : List (List Int)} {i : Nat} {x : List Int} (h : l[i]? = some x) : gL l (i : Int) = x := by
  unfold gL
  rw [Int.toNat_natCast, List.getD_eq_getElem?_getD, h]
  rfl
def hW (st : List Int) (ws : List (List Int)) (v now : Int) : Int := gI st v + (cnt (gL ws v) now : Int)
theorem zip_at' {α β : Type} {l : List α} {m : List β} {i : Nat} {x : α} {y : β} (h1 : l[i]? = some x) (h2 : m[i]? = some y) : (l.zip m)[i]? = some (x, y) := List.getElem?_zip_eq_some.mpr ⟨h1, h2⟩
theorem gI_get' {l : List Int} {v x : Int} (h0 : 0 ≤ v) (h : l[v.toNat]? = some x) : gI l v = x := by
  unfold gI
  rw [List.getD_eq_getElem?_getD, h]
  rfl
theorem gL_get' {l : List (List Int)} {v : Int} {x : List Int} (h : l[v.toNat]? = some x) : gL l v = x := by
  unfold gL
  rw [List.getD_eq_getElem?_getD, h]
  rfl
theorem held_at {st g : List Int} {ws : List (List Int)} {n : Nat} (h1 : st.length = n) (h2 : g.length = n) (h3 : ws.length = n) (le : ∀ q ∈ st.zip g, q.1 ≤ q.2) {v now : Int} (h0 : 0 ≤ v) (hv : v < n) : gI (heldF st (sideF st g) ws now) v = hW st ws v now := by
  have a1 := gI_get (l := st) h0 (by omega)
  have a2 := gI_get (l := g) h0 (by omega)
  have a3 := gL_get (l := ws) h0 (by omega)
  have a4 := le _ (List.mem_of_getElem? (zip_at' a1 a2))
  have a5 : (sideF st g)[v.toNat]? = some 1 := by
    unfold sideF
    rw [List.getElem?_map, zip_at' a1 a2]
    show some (if gI st v ≤ gI g v then (1 : Int) else -1) = some 1
    rw [if_pos a4]
  refine gI_get' h0 ?_
  unfold heldF
  rw [List.getElem?_map, zip_at' a1 (zip_at' a5 a3)]
  show some (gI st v + 1 * _) = _
  rw [Int.one_mul]
  rfl
/-- a way, by the wheel -/
structure WayI (c : Clk) (t : Int) (st g : List Int) (ws : List (List Int)) : Prop where
  len : ∀ v : Int, 0 ≤ v → v < c.eds.length → ((gL ws v).length : Int) = gI g v - gI st v
  gap : ∀ v : Int, 0 ≤ v → v < c.eds.length → ∀ x ∈ gL ws v, t ≤ x ∧ inGap c v x = true
  up : ∀ v : Int, 0 ≤ v → v < c.eds.length → (gL ws v).Pairwise (· < ·)
def TouchI (c : Clk) (t : Int) (st : List Int) (ws : List (List Int)) : Prop := ∀ now, t ≤ now → now ≤ lastF t ws + c.p → ∀ b ∈ c.bk, atTouch c b.1 b.2.2.1 now = true → b.2.1 ≤ hW st ws b.1 now → b.2.2.2 ≤ hW st ws b.2.2.1 now
structure UpTo (c : Clk) (st g : List Int) : Prop where
  sok : StOk c st
  gok : StOk c g
  le : ∀ q ∈ st.zip g, q.1 ≤ q.2
theorem UpTo.at {c : Clk} {st g : List Int} (u : UpTo c st g) {v : Int} (h0 : 0 ≤ v) (h1 : v < c.eds.length) : 0 ≤ gI st v ∧ gI st v ≤ gI g v ∧ gI g v ≤ gI c.eds v :=
  ⟨(u.sok.at h0 h1).1, u.le _ (List.mem_of_getElem? (zip_at' (gI_get h0 (by rw [u.sok.len]; exact h1)) (gI_get h0 (by rw [u.gok.len]; exact h1)))), (u.gok.at h0 h1).2⟩
theorem hW_nn {c : Clk} {st g : List Int} {ws : List (List Int)} (u : UpTo c st g) {v now : Int} (h0 : 0 ≤ v) (h1 : v < c.eds.length) : gI st v ≤ hW st ws v now ∧ 0 ≤ hW st ws v now := by
  have := (u.at h0 h1).1
  unfold hW
  omega
theorem goes_iff {c : Clk} {t : Int} {st g : List Int} {ws : List (List Int)} (fit : c.Fit) (u : UpTo c st g) (hl : ws.length = c.eds.length) : GoesP c t st g ws ↔ WayI c t st g ws ∧ TouchI c t st ws := by
  have ok : ∀ now, okAt c (heldF st (sideF st g) ws now) now ↔ ∀ b ∈ c.bk, atTouch c b.1 b.2.2.1 now = true → b.2.1 ≤ hW st ws b.1 now → b.2.2.2 ≤ hW st ws b.2.2.1 now := fun now => by
    have hd : ∀ v : Int, 0 ≤ v → v < c.eds.length → gI (heldF st (sideF st g) ws now) v = hW st ws v now := fun v h0 h1 => held_at u.sok.len u.gok.len hl u.le h0 h1
    rw [okAt_iff fit fun v h0 h1 => by rw [hd v h0 h1]; exact (hW_nn u h0 h1).2]
    constructor
    · intro H b hb
      have n := fit.ok.bk.num b hb
      have := H b hb
      rw [hd _ n.1 (by have := n.2.1; omega), hd _ n.2.2.2.2.1 (by have := n.2.2.2.2.2.1; omega)] at this
      exact this
    · intro H b hb
      have n := fit.ok.bk.num b hb
      have := H b hb
      rw [hd _ n.1 (by have := n.2.1; omega), hd _ n.2.2.2.2.1 (by have := n.2.2.2.2.2.1; omega)]
      exact this
  constructor
  · intro G
    refine ⟨⟨fun v h0 h1 => ?_, fun v h0 h1 => ?_, fun v h0 h1 => ?_⟩, fun now n0 n1 => (ok now).mp (G.touch now (mem_rngI.mpr ⟨n0, by omega⟩))⟩
    · have a1 := gI_get (l := st) h0 (by rw [u.sok.len]; exact h1)
      have a2 := gI_get (l := g) h0 (by rw [u.gok.len]; exact h1)
      have a3 := gL_get (l := ws) h0 (by rw [hl]; exact h1)
      have := G.lens _ (List.mem_of_getElem? (zip_at' a1 (zip_at' a2 a3)))
      have le := u.at h0 h1
      have this : max (gI st v - gI g v) (gI g v - gI st v) = ((gL ws v).length : Int) := this
      omega
    · have a3 := gL_get (l := ws) h0 (by rw [hl]; exact h1)
      have := G.gap (gL ws v, v.toNat) (List.mem_zipIdx_iff_getElem?.mpr a3)
      rw [Int.toNat_of_nonneg h0] at this
      exact this
    · have a3 := gL_get (l := ws) h0 (by rw [hl]; exact h1)
      exact G.up (gL ws v, v.toNat) (List.mem_zipIdx_iff_getElem?.mpr a3)
  · rintro ⟨W, H⟩
    refine ⟨fun q hq => ?_, fun q hq => ?_, fun q hq => ?_, fun now hn => (ok now).mpr (H now (mem_rngI.mp hn).1 (by have := (mem_rngI.mp hn).2; omega))⟩
    · obtain ⟨i, hi⟩ := List.mem_iff_getElem?.mp hq
      obtain ⟨h1, h2⟩ := List.getElem?_zip_eq_some.mp hi
      obtain ⟨h2, h3⟩ := List.getElem?_zip_eq_some.mp h2
      obtain ⟨hl', _⟩ := List.getElem?_eq_some_iff.mp h3
      have := W.len (i : Int) (by omega) (by omega)
      have le := u.at (v := (i : Int)) (by omega) (by omega)
      rw [gI_at h1, gI_at h2] at le
      rw [gI_at h1, gI_at h2, gL_at h3] at this
      omega
    · have h3 := List.mem_zipIdx_iff_getElem?.mp hq
      obtain ⟨hl', _⟩ := List.getElem?_eq_some_iff.mp h3
      have := W.gap (q.2 : Int) (by omega) (by omega)
      rw [gL_at h3] at this
      exact this
    · have h3 := List.mem_zipIdx_iff_getElem?.mp hq
      obtain ⟨hl', _⟩ := List.getElem?_eq_some_iff.mp h3
      have := W.up (q.2 : Int) (by omega) (by omega)
      rw [gL_at h3] at this
      exact this
/-- the tick at which an edition comes -/
def yOf (st : List Int) (ws : List (List Int)) (q : Ex2) : Int := (gL ws q.1).getD (q.2 - gI st q.1 - 1).toNat 0
theorem yOf_get {c : Clk} {t : Int} {st g : List Int} {ws : List (List Int)} (W : WayI c t st g ws) {v e : Int} (h0 : 0 ≤ v) (h1 : v < c.eds.length) (h2 : gI st v < e) (h3 : e ≤ gI g v) : (gL ws v)[(e - gI st v - 1).toNat]? = some (yOf st ws (v, e)) := by
  have := W.len v h0 h1
  have h : (e - gI st v - 1).toNat < (gL ws v).length := by omega
  unfold yOf
  show _ = some ((gL ws v).getD (e - gI st v - 1).toNat 0)
  rw [List.getD_eq_getElem?_getD, List.getElem?_eq_getElem h]
  rfl
theorem hW_iff {c : Clk} {t : Int} {st g : List Int} {ws : List (List Int)} (W : WayI c t st g ws) {v e now : Int} (h0 : 0 ≤ v) (h1 : v < c.eds.length) (h2 : gI st v < e) (h3 : e ≤ gI g v) : e ≤ hW st ws v now ↔ yOf st ws (v, e) ≤ now := by
  rw [cnt_iff (W.up v h0 h1) (yOf_get W h0 h1 h2 h3)]
  unfold hW
  omega
theorem hW_hi {c : Clk} {t : Int} {st g : List Int} {ws : List (List Int)} (W : WayI c t st g ws) {v now : Int} (h0 : 0 ≤ v) (h1 : v < c.eds.length) : hW st ws v now ≤ gI g v := by
  have := W.len v h0 h1
  have := cnt_le (gL ws v) now
  unfold hW
  omega
theorem lastF_t {t : Int} {ws : List (List Int)} : t ≤ lastF t ws := le_maxI List.mem_cons_self
theorem lastF_mem {t x : Int} {ws : List (List Int)} (h : x ∈ ws.flatten) : x ≤ lastF t ws := le_maxI (List.mem_cons_of_mem _ h)
theorem yOf_mem {c : Clk} {t : Int} {st g : List Int} {ws : List (List Int)} (W : WayI c t st g ws) (hl : ws.length = c.eds.length) {v e : Int} (h0 : 0 ≤ v) (h1 : v < c.eds.length) (h2 : gI st v < e) (h3 : e ≤ gI g v) : yOf st ws (v, e) ∈ gL ws v ∧ yOf st ws (v, e) ∈ ws.flatten := by
  have h := List.mem_of_getElem? (yOf_get W h0 h1 h2 h3)
  exact ⟨h, List.mem_flatten.mpr ⟨_, List.mem_of_getElem? (gL_get h0 (by rw [hl]; exact h1)), h⟩⟩
end MA
end
section
set_option Elab.async false
set_option linter.all false
set_option autoImplicit false
set_option maxRecDepth 100000
set_option maxHeartbeats 2000000
/-! Plain: what goes is what is closed, both ways. -/
namespace MA
open DL (Goes Leans rngI_len)
theorem sum_le_zip : ∀ {l m : List Int}, l.length = m.length → (∀ q ∈ l.zip m, q.1 ≤ q.2) → l.sum ≤ m.sum
  | [], [], _, _ => Int.le_refl _
  | [], _ :: _, h, _ => nomatch h
  | _ :: _, [], h, _ => nomatch h
  | x :: l, y :: m, h, hq => by
    rw [List.sum_cons, List.sum_cons]
    have h1 := hq (x, y) List.mem_cons_self
    have h2 := sum_le_zip (l := l) (m := m) (by simpa using h) fun q hm => hq q (List.mem_cons_of_mem _ hm)
    have h1 : x ≤ y := h1
    omega
theorem many_le : ∀ {eds st g : List Int}, st.length = eds.length → g.length = eds.length → (∀ (i : Nat) (x e : Int), st[i]? = some x → eds[i]? = some e → 0 ≤ x ∧ x ≤ e) → (∀ (i : Nat) (x e : Int), g[i]? = some x → eds[i]? = some e → 0 ≤ x ∧ x ≤ e) → (manyF st g : Int) ≤ eds.sum
  | [], [], [], _, _, _, _ => Int.le_refl _
  | e :: eds, x :: st, y :: g, h1, h2, h3, h4 => by
    have a := h3 0 x e rfl rfl
    have b := h4 0 y e rfl rfl
    have ih := many_le (eds := eds) (st := st) (g := g) (by simpa using h1) (by simpa using h2) (fun i => h3 (i + 1)) (fun i => h4 (i + 1))
    unfold manyF at ih ⊢
    rw [List.zip_cons_cons, List.map_cons, List.sum_cons, List.sum_cons]
    have : (difN (x, y) : Int) ≤ e := by
      unfold difN
      show (((max (x - y) (y - x)).toNat : Nat) : Int) ≤ e
      omega
    omega
  | [], _ :: _, _, h, _, _, _ => nomatch h
  | _ :: _, [], _, h, _, _, _ => nomatch h
  | [], [], _ :: _, _, h, _, _ => nomatch h
  | _ :: _, _ :: _, [], _, h, _, _ => nomatch h
theorem StOk.zip {c : Clk} {g : List Int} (ok : StOk c g) : ∀ q ∈ g.zip c.eds, 0 ≤ q.1 ∧ q.1 ≤ q.2 := fun q hq => by
  obtain ⟨i, hi⟩ := List.mem_iff_getElem?.mp hq
  obtain ⟨h1, h2⟩ := List.getElem?_zip_eq_some.mp hi
  exact ok.num i _ _ h1 h2
theorem StOk.mem {c : Clk} {g : List Int} (ok : StOk c g) : ∀ x ∈ g, ∃ e ∈ c.eds, 0 ≤ x ∧ x ≤ e := fun x hx => by
  obtain ⟨i, hi⟩ := List.mem_iff_getElem?.mp hx
  obtain ⟨hl, _⟩ := List.getElem?_eq_some_iff.mp hi
  have he : c.eds[i]? = some (c.eds[i]'(by have := ok.len; omega)) := List.getElem?_eq_getElem _
  exact ⟨_, List.mem_of_getElem? he, ok.num i _ _ hi he⟩
theorem cutFit {c : Clk} {g : List Int} (fit : c.Fit) (ok : StOk c g) : (cutC c g).Fit where
  t := fit.t
  b := Nat.le_trans (List.length_filter_le _ _) fit.b
  ok := {
    p1 := fit.ok.p1
    p2 := fit.ok.p2
    eds := ⟨by rw [show (cutC c g).eds = g from rfl, ok.len]; exact fit.ok.eds.one, by rw [show (cutC c g).eds = g from rfl, ok.len]; exact fit.ok.eds.few, fun x hx => by
      obtain ⟨e, he, h0, h1⟩ := ok.mem x hx
      have := fit.ok.eds.num e he
      omega, by
      have := sum_le_zip ok.len fun q hq => (ok.zip q hq).2
      exact Int.le_trans this fit.ok.eds.sum⟩
    tch := by
      show TchOk c.p g.length c.tch
      rw [ok.len]
      exact fit.ok.tch
    gps := ⟨by rw [show (cutC c g).eds = g from rfl, ok.len]; exact fit.ok.gps.len, fit.ok.gps.num, fit.ok.gps.up, fun i e he h0 gg hg => by
      have he : g[i]? = some e := he
      obtain ⟨hl, _⟩ := List.getElem?_eq_some_iff.mp he
      have h1 : c.eds[i]? = some (c.eds[i]'(by have := ok.len; omega)) := List.getElem?_eq_getElem _
      have := ok.num i _ _ he h1
      exact fit.ok.gps.some_ i _ h1 (by omega) gg hg⟩
    bk := ⟨fun b hb => by
      obtain ⟨h1, h2⟩ := List.mem_filter.mp hb
      unfold keepB at h2
      rw [Bool.and_eq_true, decide_eq_true_iff, decide_eq_true_iff] at h2
      have n := fit.ok.bk.num b h1
      rw [show (cutC c g).eds = g from rfl, ok.len]
      exact ⟨n.1, n.2.1, n.2.2.1, h2.1, n.2.2.2.2.1, n.2.2.2.2.2.1, n.2.2.2.2.2.2.1, n.2.2.2.2.2.2.2.1, h2.2⟩, fit.ok.bk.up.sublist (List.filter_sublist.map key3)⟩ }
theorem cutSt {c : Clk} {st g : List Int} (u : UpTo c st g) : StOk (cutC c g) st := ⟨by rw [show (cutC c g).eds = g from rfl, u.gok.len]; exact u.sok.len, fun i x e h1 h2 => by
  have h2 : g[i]? = some e := h2
  refine ⟨?_, u.le _ (List.mem_of_getElem? (zip_at' h1 h2))⟩
  obtain ⟨hl, _⟩ := List.getElem?_eq_some_iff.mp h1
  have h3 : c.eds[i]? = some (c.eds[i]'(by have := u.sok.len; omega)) := List.getElem?_eq_getElem _
  exact (u.sok.num i _ _ h1 h3).1⟩
theorem ledOk_of {c : Clk} {st g : List Int} (fit : c.Fit) (u : UpTo c st g) : LedOk c st g := ⟨fit, u.gok, fun _ => ⟨cutFit fit u.gok, cutSt u⟩⟩
theorem pw_get {l : List Int} (h : l.Pairwise (· < ·)) {i j : Nat} {a b : Int} (hi : l[i]? = some a) (hj : l[j]? = some b) (q : i < j) : a < b := by
  obtain ⟨h1, e1⟩ := List.getElem?_eq_some_iff.mp hi
  obtain ⟨h2, e2⟩ := List.getElem?_eq_some_iff.mp hj
  have := List.pairwise_iff_getElem.mp h i j h1 h2 q
  rw [e1, e2] at this
  exact this
section
variable {c : Clk} {t : Int} {st g : List Int} {ws : List (List Int)}
abbrev Gc (c : Clk) (st g : List Int) : List Ex2 := goingOf (cutC c g) st
theorem mem_Gc (u : UpTo c st g) {q : Ex2} : q ∈ Gc c st g ↔ 0 ≤ q.1 ∧ q.1 < c.eds.length ∧ gI st q.1 < q.2 ∧ q.2 ≤ gI g q.1 := by
  unfold Gc
  rw [mem_going, mem_everyEx]
  show (0 ≤ q.1 ∧ q.1 < (g.length : Int) ∧ 1 ≤ q.2 ∧ q.2 ≤ gI g q.1) ∧ gI st q.1 < q.2 ↔ _
  rw [u.gok.len]
  constructor
  · rintro ⟨⟨h1, h2, h3, h4⟩, h5⟩
    exact ⟨h1, h2, h5, h4⟩
  · rintro ⟨h1, h2, h5, h4⟩
    have := u.at h1 h2
    exact ⟨⟨h1, h2, by omega, h4⟩, h5⟩
theorem Gc_in : ∀ q ∈ Gc c st g, q ∈ everyEx (cutC c g).eds := fun q h => (mem_going.mp h).1
theorem way_cl (fit : c.Fit) (u : UpTo c st g) (hl : ws.length = c.eds.length) (W : WayI c t st g ws) (H : TouchI c t st ws) : Cl (cutC c g) (Gc c st g) (leansIn (cutC c g) (Gc c st g)) t (yOf st ws) ∧ ∀ q ∈ Gc c st g, ∀ v, Lim (cutC c g) st t q v → yOf st ws q ≤ v := by
  have f' := cutFit fit u.gok
  have okL : OkL (cutC c g) (Gc c st g) (leansIn (cutC c g) (Gc c st g)) := leansIn_ok Gc_in
  have lo : ∀ q ∈ Gc c st g, t ≤ yOf st ws q ∧ inGap c q.1 (yOf st ws q) = true := fun q hq => by
    obtain ⟨h1, h2, h3, h4⟩ := (mem_Gc u).mp hq
    exact W.gap _ h1 h2 _ (yOf_mem W hl h1 h2 h3 h4).1
  have hi : ∀ q ∈ Gc c st g, yOf st ws q ≤ lastF t ws := fun q hq => by
    obtain ⟨h1, h2, h3, h4⟩ := (mem_Gc u).mp hq
    exact lastF_mem (yOf_mem W hl h1 h2 h3 h4).2
  have hp := fit.ok.p1
  refine ⟨⟨fun q hq => (lo q hq).1, fun q hq => (lo q hq).2, fun l hml => ?_⟩, fun q hq v L => ?_⟩
  · obtain ⟨m1, m2, L⟩ := okL.l l hml
    obtain ⟨x1, x2, x3, x4⟩ := (mem_Gc u).mp m1
    obtain ⟨y1, y2, y3, y4⟩ := (mem_Gc u).mp m2
    rw [pushF_le f' L (lo _ m1).2]
    obtain ⟨_, hh⟩ := mem_everyLean.mp (List.mem_filter.mp hml).1
    rcases hh with ⟨h1, h2⟩ | ⟨h1, h2, h3, h4, h5, h6⟩
    · have e1 : l.1.1 = l.2.1 := by rw [h2]
      rw [if_pos e1]
      have e2 : l.2.2 = l.1.2 - 1 := by rw [h2]
      have g1 : (gL ws l.1.1)[(l.1.2 - gI st l.1.1 - 1).toNat]? = some (yOf st ws l.1) := yOf_get W x1 x2 x3 x4
      have g2 : (gL ws l.2.1)[(l.2.2 - gI st l.2.1 - 1).toNat]? = some (yOf st ws l.2) := yOf_get W y1 y2 y3 y4
      rw [← e1] at g2 y3
      have hlt : (l.2.2 - gI st l.1.1 - 1).toNat < (l.1.2 - gI st l.1.1 - 1).toNat := by omega
      exact pw_get (W.up _ x1 x2) g2 g1 hlt
    · rw [if_neg fun z => h1 z.symm]
      intro v ht hv
      refine Int.not_le.mp fun hx => ?_
      obtain ⟨b, hb, q1, q2, q3, q4⟩ := leastN_asks (c := cutC c g) (w := l.1.1) (e := l.1.2) (o := l.2.1) (by omega)
      have hb' := (List.mem_filter.mp hb).1
      have := lo _ m1
      have := hi _ m2
      have ht' : atTouch c l.1.1 l.2.1 v = true := ht
      have k1 : l.1.2 ≤ hW st ws l.1.1 v := (hW_iff W x1 x2 x3 x4).mpr hx
      have := H v (by omega) (by omega) b hb' (by rw [q1, q2]; exact ht') (by rw [q1]; omega)
      rw [q2, q4, ← h6] at this
      have := (hW_iff W y1 y2 y3 y4).mp this
      have this : yOf st ws l.2 ≤ v := this
      omega
  · obtain ⟨o, o0, o1, ne, hle, ph, rfl⟩ := L.ex
    obtain ⟨x1, x2, x3, x4⟩ := (mem_Gc u).mp hq
    have o1' : o < c.eds.length := by
      have : o < (g.length : Int) := o1
      rw [u.gok.len] at this
      exact this
    obtain ⟨n1, n2, _⟩ := nextT_spec (t := t) f'.ok ph
    refine Int.not_lt.mp fun hlt => ?_
    have s0 := u.at x1 x2
    obtain ⟨b, hb, q1, q2, q3, q4⟩ := leastN_asks (c := cutC c g) (w := o) (e := gI st o) (o := q.1) (by omega)
    have hb' := (List.mem_filter.mp hb).1
    have := hi _ hq
    have ht' : atTouch c o q.1 (nextT (cutC c g) q.1 o t) = true := by
      rw [touch_comm]
      exact n2
    have k1 := (hW_nn (ws := ws) (now := nextT (cutC c g) q.1 o t) u o0 o1').1
    have := H (nextT (cutC c g) q.1 o t) n1 (by omega) b hb' (by rw [q1, q2]; exact ht') (by rw [q1]; omega)
    rw [q2, q4] at this
    have h9 : q.2 ≤ hW st ws q.1 (nextT (cutC c g) q.1 o t) := by omega
    have : yOf st ws q ≤ nextT (cutC c g) q.1 o t := (hW_iff W x1 x2 x3 x4).mp h9
    omega
theorem restX_gL {y : Ex2 → Int} {v : Int} (h0 : 0 ≤ v) (h1 : v < g.length) : gL (restX g st y) v = (rngI (gI st v) (gI g v)).map fun a => y (v, a + 1) := by
  refine gL_get' ?_
  unfold restX
  rw [List.getElem?_map, List.getElem?_zipIdx, gI_get h0 h1]
  show some _ = some _
  rw [Nat.zero_add]
  show some ((rngI (gI st (v.toNat : Int)) (gI g v)).map fun a => y ((v.toNat : Int), a + 1)) = _
  rw [Int.toNat_of_nonneg h0]
theorem restX_len {y : Ex2 → Int} : (restX g st y).length = g.length := by
  unfold restX
  rw [List.length_map, List.length_zipIdx]
theorem cl_step (fit : c.Fit) (u : UpTo c st g) {y : Ex2 → Int} (C : Cl (cutC c g) (Gc c st g) (leansIn (cutC c g) (Gc c st g)) t y) {v e : Int} (h1 : (v, e) ∈ Gc c st g) (h2 : (v, e + 1) ∈ Gc c st g) : y (v, e) < y (v, e + 1) := by
  have f' := cutFit fit u.gok
  have okL : OkL (cutC c g) (Gc c st g) (leansIn (cutC c g) (Gc c st g)) := leansIn_ok Gc_in
  obtain ⟨x1, x2, x3, x4⟩ := (mem_Gc u).mp h1
  have s0 := u.at x1 x2
  have hm : (((v, e + 1), (v, e)) : Ex2 × Ex2) ∈ leansIn (cutC c g) (Gc c st g) := List.mem_filter.mpr ⟨mem_everyLean.mpr ⟨Gc_in _ h2, .inl ⟨by
    have x3 : gI st v < e := x3
    have s0 : 0 ≤ gI st v ∧ _ := s0
    show 1 < e + 1
    omega, by
    show (v, e) = (v, e + 1 - 1)
    rw [show e + 1 - 1 = e by omega]⟩⟩, by
    rw [Bool.and_eq_true, decide_eq_true_iff, decide_eq_true_iff]
    exact ⟨h2, h1⟩⟩
  obtain ⟨m1, m2, L⟩ := okL.l _ hm
  have := (pushF_le f' L (C.gap _ h2)).mp (C.push _ hm)
  rw [if_pos rfl] at this
  exact this
theorem cl_lt (fit : c.Fit) (u : UpTo c st g) {y : Ex2 → Int} (C : Cl (cutC c g) (Gc c st g) (leansIn (cutC c g) (Gc c st g)) t y) {v e : Int} (h1 : (v, e) ∈ Gc c st g) : ∀ n : Nat, (v, e + 1 + n) ∈ Gc c st g → y (v, e) < y (v, e + 1 + n)
  | 0, h2 => by
    have z : e + 1 + ((0 : Nat) : Int) = e + 1 := by omega
    rw [z] at h2 ⊢
    exact cl_step fit u C h1 h2
  | n + 1, h2 => by
    obtain ⟨x1, x2, x3, x4⟩ := (mem_Gc u).mp h1
    obtain ⟨y1, y2, y3, y4⟩ := (mem_Gc u).mp h2
    have x3 : gI st v < e := x3
    have y4 : e + 1 + ((n + 1 : Nat) : Int) ≤ gI g v := y4
    have hm : (v, e + 1 + (n : Int)) ∈ Gc c st g := (mem_Gc u).mpr ⟨x1, x2, by show gI st v < e + 1 + (n : Int); omega, by show e + 1 + (n : Int) ≤ gI g v; omega⟩
    have a := cl_lt fit u C h1 n hm
    have z : e + 1 + ((n + 1 : Nat) : Int) = e + 1 + (n : Int) + 1 := by omega
    rw [z] at h2 ⊢
    have b := cl_step fit u C hm h2
    omega
theorem cl_way (fit : c.Fit) (u : UpTo c st g) (nb : ∀ b ∈ c.bk, bad c g b = false) {y : Ex2 → Int} (C : Cl (cutC c g) (Gc c st g) (leansIn (cutC c g) (Gc c st g)) t y) (Lm : ∀ q ∈ Gc c st g, ∀ v, Lim (cutC c g) st t q v → y q ≤ v) : WayI c t st g (restX g st y) ∧ (∀ q ∈ Gc c st g, yOf st (restX g st y) q = y q) ∧ TouchI c t st (restX g st y) := by
  have f' := cutFit fit u.gok
  have okL : OkL (cutC c g) (Gc c st g) (leansIn (cutC c g) (Gc c st g)) := leansIn_ok Gc_in
  have el : g.length = c.eds.length := u.gok.len
  have gl : ∀ v : Int, 0 ≤ v → v < c.eds.length → gL (restX g st y) v = (rngI (gI st v) (gI g v)).map fun a => y (v, a + 1) := fun v h0 h1 => restX_gL h0 (by rw [el]; exact h1)
  have W : WayI c t st g (restX g st y) := ⟨fun v h0 h1 => by
    have := u.at h0 h1
    rw [gl v h0 h1, List.length_map, rngI_len]
    omega, fun v h0 h1 x hx => by
    rw [gl v h0 h1] at hx
    obtain ⟨a, ha, rfl⟩ := List.mem_map.mp hx
    obtain ⟨a1, a2⟩ := mem_rngI.mp ha
    have hq : (v, a + 1) ∈ Gc c st g := (mem_Gc u).mpr ⟨h0, h1, by show gI st v < a + 1; omega, by show a + 1 ≤ gI g v; omega⟩
    exact ⟨C.lo _ hq, C.gap _ hq⟩, fun v h0 h1 => by
    rw [gl v h0 h1, List.pairwise_map]
    refine (rngI_pw _ _).imp_of_mem fun {a b} ha hb lt => ?_
    obtain ⟨a1, a2⟩ := mem_rngI.mp ha
    obtain ⟨b1, b2⟩ := mem_rngI.mp hb
    have hq : (v, a + 1) ∈ Gc c st g := (mem_Gc u).mpr ⟨h0, h1, by show gI st v < a + 1; omega, by show a + 1 ≤ gI g v; omega⟩
    have hq' : (v, b + 1) ∈ Gc c st g := (mem_Gc u).mpr ⟨h0, h1, by show gI st v < b + 1; omega, by show b + 1 ≤ gI g v; omega⟩
    have z : b + 1 = a + 1 + 1 + ((b - a - 1).toNat : Int) := by omega
    rw [z] at hq' ⊢
    exact cl_lt fit u C hq _ hq'⟩
  have Y : ∀ q ∈ Gc c st g, yOf st (restX g st y) q = y q := fun q hq => by
    obtain ⟨x1, x2, x3, x4⟩ := (mem_Gc u).mp hq
    have h := yOf_get (e := q.2) W x1 x2 x3 x4
    rw [gl _ x1 x2, List.getElem?_map] at h
    unfold rngI at h
    rw [List.getElem?_map, List.getElem?_range (by omega)] at h
    have h := (Option.some.inj h).symm
    rw [show yOf st (restX g st y) (q.1, q.2) = yOf st (restX g st y) q from rfl] at h
    rw [h]
    show y (q.1, gI st q.1 + ((q.2 - gI st q.1 - 1).toNat : Int) + 1) = y q
    rw [show gI st q.1 + ((q.2 - gI st q.1 - 1).toNat : Int) + 1 = q.2 by omega]
  refine ⟨W, Y, fun now n0 n1 b hb ht he => ?_⟩
  have n := fit.ok.bk.num b hb
  have w0 := n.1
  have w1 : b.1 < c.eds.length := by have := n.2.1; omega
  have o0 := n.2.2.2.2.1
  have o1 : b.2.2.1 < c.eds.length := by have := n.2.2.2.2.2.1; omega
  have uw := u.at w0 w1
  have uo := u.at o0 o1
  have hg := hW_hi (now := now) W w0 w1
  have eg : b.2.1 ≤ gI g b.1 := by omega
  have lg : b.2.2.2 ≤ gI g b.2.2.1 := by
    have := nb b hb
    unfold bad at this
    have ph : (phases c b.1 b.2.2.1).isEmpty = false := by
      cases e : phases c b.1 b.2.2.1 with
      | nil => exact absurd e (touch_ne ht)
      | cons _ _ => rfl
    rw [ph, decide_eq_true eg] at this
    simpa using this
  have hb' : b ∈ (cutC c g).bk := List.mem_filter.mpr ⟨hb, by
    unfold keepB
    rw [decide_eq_true eg, decide_eq_true lg]
    rfl⟩
  have so := (hW_nn (ws := restX g st y) (now := now) u o0 o1).1
  by_cases q : b.2.2.2 ≤ gI st b.2.2.1
  · omega
  · have qG : (b.2.2.1, b.2.2.2) ∈ Gc c st g := (mem_Gc u).mpr ⟨o0, o1, by show gI st b.2.2.1 < b.2.2.2; omega, lg⟩
    rw [hW_iff W o0 o1 (by omega) lg, Y _ qG]
    by_cases r : b.2.1 ≤ gI st b.1
    · have ph : phases (cutC c g) b.2.2.1 b.1 ≠ [] := by
        rw [phases_comm]
        exact touch_ne ht
      have L : Lim (cutC c g) st t (b.2.2.1, b.2.2.2) (nextT (cutC c g) b.2.2.1 b.1 t) := ⟨b.1, w0, by show b.1 < (g.length : Int); rw [el]; exact w1, n.2.2.2.2.2.2.1, asks_le ⟨b, hb', rfl, rfl, r, rfl⟩, ph, rfl⟩
      have h1 := Lm _ qG _ L
      have h2 := (nextT_spec (t := t) f'.ok ph).2.2 now n0 (by
        rw [touch_comm]
        exact ht)
      omega
    · have pG : (b.1, b.2.1) ∈ Gc c st g := (mem_Gc u).mpr ⟨w0, w1, by show gI st b.1 < b.2.1; omega, eg⟩
      have hx := (hW_iff W w0 w1 (by omega) eg).mp he
      rw [Y _ pG] at hx
      have l1 : b.2.2.2 ≤ leastN (cutC c g) b.1 b.2.1 b.2.2.1 := asks_le ⟨b, hb', rfl, rfl, Int.le_refl _, rfl⟩
      have l0 : 0 < leastN (cutC c g) b.1 b.2.1 b.2.2.1 := by
        have := n.2.2.2.2.2.2.2.1
        omega
      have l2 : leastN (cutC c g) b.1 b.2.1 b.2.2.1 ≤ gI g b.2.2.1 := leastN_le f'.ok.bk l0
      have rG : (b.2.2.1, leastN (cutC c g) b.1 b.2.1 b.2.2.1) ∈ Gc c st g := (mem_Gc u).mpr ⟨o0, o1, by show gI st b.2.2.1 < leastN (cutC c g) b.1 b.2.1 b.2.2.1; omega, l2⟩
      have hm : (((b.1, b.2.1), (b.2.2.1, leastN (cutC c g) b.1 b.2.1 b.2.2.1)) : Ex2 × Ex2) ∈ leansIn (cutC c g) (Gc c st g) := List.mem_filter.mpr ⟨mem_everyLean.mpr ⟨Gc_in _ pG, .inr ⟨fun z => n.2.2.2.2.2.2.1 z.symm, o0, by show b.2.2.1 < (g.length : Int); rw [el]; exact o1, touch_ne ht, l0, rfl⟩⟩, by
        rw [Bool.and_eq_true, decide_eq_true_iff, decide_eq_true_iff]
        exact ⟨pG, rG⟩⟩
      have hpush := (pushF_le f' (okL.l _ hm).2.2 (C.gap _ pG)).mp (C.push _ hm)
      rw [if_neg n.2.2.2.2.2.2.1] at hpush
      have h1 : ¬ now < y (b.2.2.1, leastN (cutC c g) b.1 b.2.1 b.2.2.1) := fun z => by
        have := hpush now ht z
        have this : now < y (b.1, b.2.1) := this
        omega
      by_cases e : b.2.2.2 = leastN (cutC c g) b.1 b.2.1 b.2.2.1
      · rw [← e] at h1
        omega
      · have z : leastN (cutC c g) b.1 b.2.1 b.2.2.1 = b.2.2.2 + 1 + ((leastN (cutC c g) b.1 b.2.1 b.2.2.1 - b.2.2.2 - 1).toNat : Int) := by omega
        rw [z] at rG h1
        have := cl_lt fit u C qG _ rG
        omega
end
end MA
end
section
set_option Elab.async false
set_option linter.all false
set_option autoImplicit false
set_option maxRecDepth 100000
set_option maxHeartbeats 2000000
/-! Plain: led on. -/
namespace MA
open DL (Goes Leans rngI_len)
theorem filt_len {a b : Int} (h0 : 0 ≤ a) (h1 : a ≤ b) : ((rngI 1 (b + 1)).filter fun x => decide (a < x)).length = (b - a).toNat := by
  have e : ((rngI 1 (b + 1)).filter fun x => decide (a < x)) = rngI (a + 1) (b + 1) := by
    refine eq_of_pw (R := fun x y : Int => x < y) (fun {a b} h h' => by omega) ((rngI_pw _ _).filter _) (rngI_pw _ _) fun x => ?_
    rw [List.mem_filter, mem_rngI, mem_rngI, decide_eq_true_iff]
    omega
  rw [e, rngI_len]
  omega
section
variable {c : Clk} {t : Int} {st g : List Int} {ws : List (List Int)}
theorem Gc_len (u : UpTo c st g) : (Gc c st g).length = manyF st g := by
  show ((everyEx g).filter fun q => decide (gI st q.1 < q.2)).length = _
  unfold everyEx manyF
  rw [List.filter_flatMap, List.length_flatMap]
  congr 1
  refine List.ext_getElem? fun i => ?_
  rw [List.getElem?_map, List.getElem?_map, List.getElem?_zipIdx]
  cases hg : g[i]? with
  | none =>
    have : (st.zip g)[i]? = none := by
      rw [List.getElem?_eq_none_iff] at hg ⊢
      rw [List.length_zip]
      omega
    rw [this]
    rfl
  | some e =>
    obtain ⟨hl, _⟩ := List.getElem?_eq_some_iff.mp hg
    have l1 := u.sok.len
    have l2 := u.gok.len
    have hs : st[i]? = some (st[i]'(by omega)) := List.getElem?_eq_getElem _
    rw [zip_at' hs hg]
    have hu := u.at (v := (i : Int)) (by omega) (by omega)
    rw [gI_at hs, gI_at hg] at hu
    show some ((((rngI 1 (e + 1)).map fun x => (((0 + i : Nat) : Int), x)).filter fun q => decide (gI st q.1 < q.2)).length) = some (difN (st[i], e))
    rw [List.filter_map, List.length_map]
    have e1 : ((fun q : Int × Int => decide (gI st q.1 < q.2)) ∘ fun x : Int => (((0 + i : Nat) : Int), x)) = fun x => decide (st[i]'(by omega) < x) := by
      funext x
      show decide (gI st ((0 + i : Nat) : Int) < x) = _
      rw [Nat.zero_add, gI_at hs]
    rw [e1, filt_len hu.1 hu.2.1]
    congr 1
    unfold difN
    show (e - st[i]).toNat = (max (st[i] - e) (e - st[i])).toNat
    congr 1
    omega
theorem hW_end {t : Int} (u : UpTo c st g) (W : WayI c t st g ws) (hl : ws.length = c.eds.length) {v now : Int} (h0 : 0 ≤ v) (h1 : v < c.eds.length) (h : lastF t ws ≤ now) : hW st ws v now = gI g v := by
  have a := hW_hi (now := now) W h0 h1
  have b := (hW_nn (ws := ws) (now := now) u h0 h1).1
  have d := u.at h0 h1
  by_cases q : gI st v = gI g v
  · omega
  · have := (hW_iff (now := now) W h0 h1 (e := gI g v) (by omega) (Int.le_refl _)).mpr (Int.le_trans (lastF_mem (yOf_mem W hl h0 h1 (by omega) (Int.le_refl _)).2) h)
    omega
theorem bad_no (fit : c.Fit) (u : UpTo c st g) (hl : ws.length = c.eds.length) (W : WayI c t st g ws) (H : TouchI c t st ws) : ∀ b ∈ c.bk, bad c g b = false := fun b hb => by
  have n := fit.ok.bk.num b hb
  have w1 : b.1 < c.eds.length := by have := n.2.1; omega
  have o1 : b.2.2.1 < c.eds.length := by have := n.2.2.2.2.2.1; omega
  refine Bool.eq_false_iff.mpr fun hbad => ?_
  unfold bad at hbad
  rw [Bool.and_eq_true, Bool.and_eq_true, decide_eq_true_iff] at hbad
  obtain ⟨e1, e2, e3⟩ := hbad
  have e2 : ¬ b.2.2.2 ≤ gI g b.2.2.1 := by simpa using e2
  have e3 : phases c b.1 b.2.2.1 ≠ [] := by
    intro z
    rw [z] at e3
    exact nomatch e3
  obtain ⟨s, s1, s2, s3⟩ := fit.ok.touchHit e3 (lastF t ws)
  have hp := fit.ok.p1
  have h1 := hW_end u W hl n.1 w1 s1
  have h2 := hW_end u W hl n.2.2.2.2.1 o1 s1
  have := H s (Int.le_trans lastF_t s1) (by omega) b hb s3 (by omega)
  omega
theorem restX_mem (u : UpTo c st g) {y : Ex2 → Int} {z : Int} (h : z ∈ (restX g st y).flatten) : ∃ q ∈ Gc c st g, z = y q := by
  obtain ⟨l, hl, hz⟩ := List.mem_flatten.mp h
  unfold restX at hl
  obtain ⟨q, hq, rfl⟩ := List.mem_map.mp hl
  obtain ⟨a, ha, rfl⟩ := List.mem_map.mp hz
  have hi := List.mem_zipIdx_iff_getElem?.mp hq
  obtain ⟨hl', _⟩ := List.getElem?_eq_some_iff.mp hi
  obtain ⟨a1, a2⟩ := mem_rngI.mp ha
  have := u.gok.len
  refine ⟨_, (mem_Gc u).mpr ⟨?_, ?_, ?_, ?_⟩, rfl⟩
  · show 0 ≤ (q.2 : Int)
    omega
  · show (q.2 : Int) < c.eds.length
    omega
  · show gI st (q.2 : Int) < a + 1
    omega
  · show a + 1 ≤ gI g (q.2 : Int)
    rw [gI_at hi]
    omega
theorem zip_flat : ∀ {a b : List (List Int)}, a.length = b.length → (∀ (i : Nat) x y, a[i]? = some x → b[i]? = some y → x.length = y.length) → ∀ p ∈ a.flatten.zip b.flatten, ∃ (i : Nat) (x y : List Int) (j : Nat), a[i]? = some x ∧ b[i]? = some y ∧ x[j]? = some p.1 ∧ y[j]? = some p.2
  | [], [], _, _, p, hp => nomatch hp
  | [], _ :: _, h, _, _, _ => nomatch h
  | _ :: _, [], h, _, _, _ => nomatch h
  | x :: a, y :: b, h, hl, p, hp => by
    rw [List.flatten_cons, List.flatten_cons, List.zip_append (hl 0 x y rfl rfl)] at hp
    rcases List.mem_append.mp hp with z | z
    · obtain ⟨j, hj⟩ := List.mem_iff_getElem?.mp z
      obtain ⟨h1, h2⟩ := List.getElem?_zip_eq_some.mp hj
      exact ⟨0, x, y, j, rfl, rfl, h1, h2⟩
    · obtain ⟨i, x', y', j, h1, h2, h3, h4⟩ := zip_flat (a := a) (b := b) (by simpa using h) (fun i => hl (i + 1)) p z
      exact ⟨i + 1, x', y', j, h1, h2, h3, h4⟩
theorem upB_of (u : UpTo c st g) {w0 : List (List Int)} (l0 : w0.length = c.eds.length) (l1 : ws.length = c.eds.length) (W0 : WayI c t st g w0) (W : WayI c t st g ws) (h : ∀ q ∈ Gc c st g, yOf st w0 q ≤ yOf st ws q) : DL.upB w0 ws = true := by
  unfold DL.upB
  rw [List.isEmpty_iff, List.filter_eq_nil_iff]
  intro p hp
  have el : ∀ (i : Nat) x y, w0[i]? = some x → ws[i]? = some y → x.length = y.length := fun i x y h1 h2 => by
    obtain ⟨hl', _⟩ := List.getElem?_eq_some_iff.mp h1
    have a := W0.len (i : Int) (by omega) (by omega)
    have b := W.len (i : Int) (by omega) (by omega)
    rw [gL_at h1] at a
    rw [gL_at h2] at b
    omega
  obtain ⟨i, x, y, j, h1, h2, h3, h4⟩ := zip_flat (by rw [l0, l1]) el p hp
  obtain ⟨hl', _⟩ := List.getElem?_eq_some_iff.mp h1
  obtain ⟨hj, _⟩ := List.getElem?_eq_some_iff.mp h3
  have i0 : 0 ≤ (i : Int) := by omega
  have i1 : (i : Int) < c.eds.length := by omega
  have a := W0.len (i : Int) i0 i1
  rw [gL_at h1] at a
  have s0 : gI st (i : Int) < gI st (i : Int) + 1 + (j : Int) := by omega
  have s1 : gI st (i : Int) + 1 + (j : Int) ≤ gI g (i : Int) := by omega
  have b1 := yOf_get W0 i0 i1 s0 s1
  have b2 := yOf_get W i0 i1 s0 s1
  have e : (gI st (i : Int) + 1 + (j : Int) - gI st (i : Int) - 1).toNat = j := by omega
  rw [e, gL_at h1, h3] at b1
  rw [e, gL_at h2, h4] at b2
  have c1 := Option.some.inj b1
  have c2 := Option.some.inj b2
  have k : yOf st w0 ((i : Int), gI st (i : Int) + 1 + (j : Int)) ≤ yOf st ws ((i : Int), gI st (i : Int) + 1 + (j : Int)) := h _ ((mem_Gc u).mpr ⟨i0, i1, s0, s1⟩)
  rw [decide_eq_true_iff, c1, c2]
  exact Int.not_lt.mpr k
end
end MA
namespace DL
open PySem PySem.Spec L2
open PyProof.Rows hiding St
open MA
theorem best_in {c : Clk} {t : Int} {st g : List Int} (L : ClkLaw c) (t0 : 0 ≤ t) (t9 : t < 9) (h1 : StOk c st) (h2 : StOk c g) : BestIn c t st g := ⟨h1.len, h2.len, t0, by omega, L.fit.ok.p1, L.p4, by
  have := many_le h1.len h2.len h1.num h2.num
  have := L.s3
  omega⟩
theorem bound_le {c : Clk} {t : Int} {k : Nat} (hp : 1 ≤ c.p) (k3 : k ≤ 3) : boundF c t k ≤ t + 2 * c.p * ((k : Int) + 1) := by
  unfold boundF
  split
  · exact Int.le_refl _
  · have : k = 3 := by omega
    subst this
    show t + 6 ≤ t + 2 * c.p * (3 + 1)
    omega
theorem on_law (c : Clk) (t : Int) (st g : List Int) (L : ClkLaw c) (t0 : 0 ≤ t) (t9 : t < 9) (h1 : StOk c st) (h2 : StOk c g) (le : ∀ q ∈ st.zip g, q.1 ≤ q.2) : LedOk c st g ∧ BestIn c t st g ∧ ∀ S : D → Prop, (∀ d, ToldOk c t st g d → S d) → LedS c t st g S := by
  have fit := L.fit
  have u : UpTo c st g := ⟨h1, h2, le⟩
  have B := best_in L t0 t9 h1 h2
  have hp := fit.ok.p1
  have eB : restB (cutC c g) st t = t + 2 * c.p * ((manyF st g : Int) + 1) := by
    show t + 2 * c.p * (((Gc c st g).length : Int) + 1) = _
    rw [Gc_len u]
  refine ⟨ledOk_of fit u, B, fun S hS => ⟨fun ⟨b, hb, hbad⟩ => hS _ (.inl ⟨rfl, fun ws ok G _ => ?_⟩), fun nb r R => ?_⟩⟩
  · obtain ⟨W, H⟩ := (goes_iff fit u ok.lws).mp G
    rw [bad_no fit u ok.lws W H b hb] at hbad
    cases hbad
  · cases r with
    | none =>
      refine hS _ (.inl ⟨rfl, fun ws ok G hb => ?_⟩)
      obtain ⟨W, H⟩ := (goes_iff fit u ok.lws).mp G
      obtain ⟨C, Lm⟩ := way_cl fit u ok.lws W H
      rcases R with ⟨a, ha, h⟩ | ⟨x, ⟨U, Cx⟩, q, hq, v, Lv, hlt⟩
      · have a1 := h _ C
        obtain ⟨x1, x2, x3, x4⟩ := (mem_Gc u).mp ha
        have a2 := hb _ (yOf_mem (e := a.2) W ok.lws x1 x2 x3 x4).2
        have a2 : yOf st ws a ≤ boundF c t (manyF st g) := a2
        have a3 := bound_le (t := t) hp B.k3
        rw [eB] at a1
        omega
      · have a1 := U.low _ C q hq
        have a2 := Lm q hq v Lv
        omega
    | some x =>
      obtain ⟨⟨U, C⟩, Lm⟩ := R
      obtain ⟨W, Y, H⟩ := cl_way fit u nb C Lm
      have lw : (restX g st x).length = c.eds.length := by rw [restX_len, h2.len]
      have hx : ∀ z ∈ (restX g st x).flatten, z ≤ t + 2 * c.p * ((manyF st g : Int) + 1) := fun z hz => by
        obtain ⟨q, hq, rfl⟩ := restX_mem u hz
        have := U.le q hq
        rw [eB] at this
        exact this
      have hbig : t + 2 * c.p * ((manyF st g : Int) + 1) ≤ 1000 := by
        have := L.p4
        have hk := B.k3
        have hk : manyF st g = 0 ∨ manyF st g = 1 ∨ manyF st g = 2 ∨ manyF st g = 3 := by omega
        rcases hk with k | k | k | k <;> (rw [k]; omega)
      have hnn : t ≤ t + 2 * c.p * ((manyF st g : Int) + 1) := by
        have : 0 ≤ 2 * c.p * ((manyF st g : Int) + 1) := Int.mul_nonneg (by omega) (by omega)
        omega
      refine hS _ (.inr ⟨restX g st x, rfl, ⟨h1.len, h2.len, lw, fun l hl => ?_, t0, by omega, fun z hz => Int.le_trans (hx z hz) hbig⟩, (goes_iff fit u lw).mpr ⟨W, H⟩, maxI_le.mpr ⟨hnn, hx⟩, fun ws ok G => ?_⟩)
      · obtain ⟨i, hi⟩ := List.mem_iff_getElem?.mp hl
        obtain ⟨hl', _⟩ := List.getElem?_eq_some_iff.mp hi
        have a := W.len (i : Int) (by omega) (by omega)
        rw [gL_at hi] at a
        have b := u.at (v := (i : Int)) (by omega) (by omega)
        have he : c.eds[i]? = some (c.eds[i]'(by omega)) := List.getElem?_eq_getElem _
        rw [gI_at he] at b
        have := fit.ok.eds.num _ (List.mem_of_getElem? he)
        omega
      · obtain ⟨W', H'⟩ := (goes_iff fit u ok.lws).mp G
        obtain ⟨C', _⟩ := way_cl fit u ok.lws W' H'
        exact upB_of u lw ok.lws W W' fun q hq => by
          rw [Y q hq]
          exact U.low _ C' q hq
end DL
end
section
set_option Elab.async false
set_option linter.all false
set_option autoImplicit false
set_option maxRecDepth 100000
set_option maxHeartbeats 2000000
/-! Plain: led back; led to the end. -/
namespace MA
open DL (Goes Leans rngI_len)
section
variable {c : Clk} {t : Int} {st g : List Int} {ws : List (List Int)}
theorem okAt_mir (fit : c.Fit) {h h' : List Int} {now : Int} (hb : ∀ v : Int, 0 ≤ v → v < c.eds.length → 0 ≤ gI h v ∧ gI h v ≤ gI c.eds v) (hh : ∀ v : Int, 0 ≤ v → v < c.eds.length → gI h' v = gI c.eds v - gI h v) : okAt c h now ↔ okAt (mir c) h' now := by
  have f' := mirFit c fit
  rw [okAt_iff fit fun v h0 h1 => (hb v h0 h1).1, okAt_iff f' fun v h0 h1 => by
    have := hb v h0 h1
    rw [hh v h0 h1]
    omega]
  constructor
  · intro H b hm ht he
    have h1 := ((mem_mir fit.ok.bk).mp hm).1
    have n := fit.ok.bk.num _ h1
    obtain ⟨w, e, o, l⟩ := b
    have n : 0 ≤ o ∧ o ≤ (c.eds.length : Int) - 1 ∧ 1 ≤ gI c.eds o - l + 1 ∧ gI c.eds o - l + 1 ≤ gI c.eds o ∧ 0 ≤ w ∧ w ≤ (c.eds.length : Int) - 1 ∧ _ := n
    have he : e ≤ gI h' w := he
    show l ≤ gI h' o
    rw [hh w n.2.2.2.2.1 (by omega)] at he
    rw [hh o n.1 (by omega)]
    have ht' : atTouch c o w now = true := by rw [touch_comm]; exact ht
    have h2 : gI c.eds o - l + 1 ≤ gI h o → gI c.eds w - e + 1 ≤ gI h w := H _ h1 ht'
    omega
  · intro H b hm ht he
    have n := fit.ok.bk.num _ hm
    obtain ⟨E, hE, le⟩ := mir_above fit.ok.bk hm
    have ht' : atTouch c b.2.2.1 b.1 now = true := by rw [touch_comm]; exact ht
    have h2 : gI c.eds b.2.2.1 - b.2.2.2 + 1 ≤ gI h' b.2.2.1 → E ≤ gI h' b.1 := H _ hE ht'
    rw [hh b.1 n.1 (by have := n.2.1; omega), hh b.2.2.1 n.2.2.2.2.1 (by have := n.2.2.2.2.2.1; omega)] at h2
    omega
theorem flip_at {eds st : List Int} {i : Nat} {e x : Int} (h1 : eds[i]? = some e) (h2 : st[i]? = some x) : (flipS eds st)[i]? = some (e - x) := by
  unfold flipS
  rw [List.getElem?_map, zip_at' h1 h2]
  rfl
theorem flip_len {eds st : List Int} (h : st.length = eds.length) : (flipS eds st).length = eds.length := by
  unfold flipS
  rw [List.length_map, List.length_zip, h]
  omega
theorem flip_gI (h : st.length = c.eds.length) {v : Int} (h0 : 0 ≤ v) (h1 : v < c.eds.length) : gI (flipS c.eds st) v = gI c.eds v - gI st v :=
  gI_get' h0 (flip_at (gI_get h0 h1) (gI_get h0 (by rw [h]; exact h1)))
theorem flip_ok (h : StOk c st) : StOk (mir c) (flipS c.eds st) := ⟨flip_len h.len, fun i x e h1 h2 => by
  have h2 : c.eds[i]? = some e := h2
  obtain ⟨hl, _⟩ := List.getElem?_eq_some_iff.mp h2
  have h3 : st[i]? = some (st[i]'(by have := h.len; omega)) := List.getElem?_eq_getElem _
  rw [flip_at h2 h3] at h1
  have := h.num i _ _ h3 h2
  have := Option.some.inj h1
  omega⟩
structure DnTo (c : Clk) (st g : List Int) : Prop where
  sok : StOk c st
  gok : StOk c g
  le : ∀ q ∈ g.zip st, q.1 ≤ q.2
theorem DnTo.at (u : DnTo c st g) {v : Int} (h0 : 0 ≤ v) (h1 : v < c.eds.length) : 0 ≤ gI g v ∧ gI g v ≤ gI st v ∧ gI st v ≤ gI c.eds v :=
  UpTo.at ⟨u.gok, u.sok, u.le⟩ h0 h1
theorem DnTo.flip (u : DnTo c st g) : UpTo (mir c) (flipS c.eds st) (flipS c.eds g) := ⟨flip_ok u.sok, flip_ok u.gok, fun q hq => by
  obtain ⟨i, hi⟩ := List.mem_iff_getElem?.mp hq
  obtain ⟨h1, h2⟩ := List.getElem?_zip_eq_some.mp hi
  obtain ⟨hl, _⟩ := List.getElem?_eq_some_iff.mp h1
  rw [flip_len u.sok.len] at hl
  have l1 := u.sok.len
  have l2 := u.gok.len
  have a1 := gI_at h1
  have a2 := gI_at h2
  rw [flip_gI u.sok.len (by omega) (by omega)] at a1
  rw [flip_gI u.gok.len (by omega) (by omega)] at a2
  have := u.at (v := (i : Int)) (by omega) (by omega)
  omega⟩
theorem many_flip (u : DnTo c st g) : manyF (flipS c.eds st) (flipS c.eds g) = manyF st g := by
  unfold manyF
  congr 1
  have l1 := u.sok.len
  have l2 := u.gok.len
  refine List.ext_getElem? fun i => ?_
  rw [List.getElem?_map, List.getElem?_map]
  by_cases h : i < c.eds.length
  · have h1 : c.eds[i]? = some (c.eds[i]) := List.getElem?_eq_getElem h
    have h2 : st[i]? = some (st[i]'(by omega)) := List.getElem?_eq_getElem _
    have h3 : g[i]? = some (g[i]'(by omega)) := List.getElem?_eq_getElem _
    rw [zip_at' h2 h3, zip_at' (flip_at h1 h2) (flip_at h1 h3)]
    show some (difN (_, _)) = some (difN (_, _))
    congr 1
    unfold difN
    show (max (c.eds[i] - st[i] - (c.eds[i] - g[i])) (c.eds[i] - g[i] - (c.eds[i] - st[i]))).toNat = (max (st[i] - g[i]) (g[i] - st[i])).toNat
    congr 1
    omega
  · have h1 : (st.zip g)[i]? = none := by
      rw [List.getElem?_eq_none_iff, List.length_zip]
      omega
    have h2 : ((flipS c.eds st).zip (flipS c.eds g))[i]? = none := by
      rw [List.getElem?_eq_none_iff, List.length_zip, flip_len l1, flip_len l2]
      omega
    rw [h1, h2]
theorem held_dn (u : DnTo c st g) (hl : ws.length = c.eds.length) {v now : Int} (h0 : 0 ≤ v) (h1 : v < c.eds.length) (hlen : ((gL ws v).length : Int) = gI st v - gI g v) : gI (heldF st (sideF st g) ws now) v = gI st v - (cnt (gL ws v) now : Int) := by
  have a1 := gI_get (l := st) h0 (by rw [u.sok.len]; exact h1)
  have a2 := gI_get (l := g) h0 (by rw [u.gok.len]; exact h1)
  have a3 := gL_get (l := ws) h0 (by rw [hl]; exact h1)
  have b := u.at h0 h1
  have hc := cnt_le (gL ws v) now
  refine gI_get' h0 ?_
  unfold heldF
  by_cases q : gI st v ≤ gI g v
  · have a5 : (sideF st g)[v.toNat]? = some 1 := by
      unfold sideF
      rw [List.getElem?_map, zip_at' a1 a2]
      show some (if gI st v ≤ gI g v then (1 : Int) else -1) = some 1
      rw [if_pos q]
    rw [List.getElem?_map, zip_at' a1 (zip_at' a5 a3)]
    show some (gI st v + 1 * ((cnt (gL ws v) now : Nat) : Int)) = _
    congr 1
    omega
  · have a5 : (sideF st g)[v.toNat]? = some (-1) := by
      unfold sideF
      rw [List.getElem?_map, zip_at' a1 a2]
      show some (if gI st v ≤ gI g v then (1 : Int) else -1) = some (-1)
      rw [if_neg q]
    rw [List.getElem?_map, zip_at' a1 (zip_at' a5 a3)]
    show some (gI st v + -1 * ((cnt (gL ws v) now : Nat) : Int)) = _
    congr 1
    omega
theorem goes_flip (fit : c.Fit) (u : DnTo c st g) (hl : ws.length = c.eds.length) : GoesP c t st g ws ↔ GoesP (mir c) t (flipS c.eds st) (flipS c.eds g) ws := by
  have u' := u.flip
  have l1 := u.sok.len
  have l2 := u.gok.len
  have lens : (∀ q ∈ st.zip (g.zip ws), max (q.1 - q.2.1) (q.2.1 - q.1) = (q.2.2.length : Int)) ↔ ∀ v : Int, 0 ≤ v → v < c.eds.length → ((gL ws v).length : Int) = gI st v - gI g v := by
    constructor
    · intro G v h0 h1
      have a1 := gI_get (l := st) h0 (by rw [u.sok.len]; exact h1)
      have a2 := gI_get (l := g) h0 (by rw [u.gok.len]; exact h1)
      have a3 := gL_get (l := ws) h0 (by rw [hl]; exact h1)
      have := G _ (List.mem_of_getElem? (zip_at' a1 (zip_at' a2 a3)))
      have le := u.at h0 h1
      have this : max (gI st v - gI g v) (gI g v - gI st v) = ((gL ws v).length : Int) := this
      omega
    · intro W q hq
      obtain ⟨i, hi⟩ := List.mem_iff_getElem?.mp hq
      obtain ⟨h1, h2⟩ := List.getElem?_zip_eq_some.mp hi
      obtain ⟨h2, h3⟩ := List.getElem?_zip_eq_some.mp h2
      obtain ⟨hl', _⟩ := List.getElem?_eq_some_iff.mp h3
      have := W (i : Int) (by omega) (by omega)
      have le := u.at (v := (i : Int)) (by omega) (by omega)
      rw [gI_at h1, gI_at h2] at le
      rw [gI_at h1, gI_at h2, gL_at h3] at this
      omega
  have lens' : (∀ q ∈ (flipS c.eds st).zip ((flipS c.eds g).zip ws), max (q.1 - q.2.1) (q.2.1 - q.1) = (q.2.2.length : Int)) ↔ ∀ v : Int, 0 ≤ v → v < c.eds.length → ((gL ws v).length : Int) = gI st v - gI g v := by
    constructor
    · intro G v h0 h1
      have a1 := gI_get (l := flipS c.eds st) h0 (by rw [flip_len l1]; exact h1)
      have a2 := gI_get (l := flipS c.eds g) h0 (by rw [flip_len l2]; exact h1)
      have a3 := gL_get (l := ws) h0 (by rw [hl]; exact h1)
      have := G _ (List.mem_of_getElem? (zip_at' a1 (zip_at' a2 a3)))
      have le := u.at h0 h1
      have this : max (gI (flipS c.eds st) v - gI (flipS c.eds g) v) (gI (flipS c.eds g) v - gI (flipS c.eds st) v) = ((gL ws v).length : Int) := this
      rw [flip_gI l1 h0 h1, flip_gI l2 h0 h1] at this
      omega
    · intro W q hq
      obtain ⟨i, hi⟩ := List.mem_iff_getElem?.mp hq
      obtain ⟨h1, h2⟩ := List.getElem?_zip_eq_some.mp hi
      obtain ⟨h2, h3⟩ := List.getElem?_zip_eq_some.mp h2
      obtain ⟨hl', _⟩ := List.getElem?_eq_some_iff.mp h3
      have := W (i : Int) (by omega) (by omega)
      have le := u.at (v := (i : Int)) (by omega) (by omega)
      have b1 := gI_at h1
      have b2 := gI_at h2
      rw [flip_gI l1 (by omega) (by omega)] at b1
      rw [flip_gI l2 (by omega) (by omega)] at b2
      rw [gL_at h3] at this
      omega
  have tch : (∀ v : Int, 0 ≤ v → v < c.eds.length → ((gL ws v).length : Int) = gI st v - gI g v) → ∀ now, okAt c (heldF st (sideF st g) ws now) now ↔ okAt (mir c) (heldF (flipS c.eds st) (sideF (flipS c.eds st) (flipS c.eds g)) ws now) now := fun hL now => by
    refine okAt_mir fit (fun v h0 h1 => ?_) fun v h0 h1 => ?_
    · have a := hL v h0 h1
      rw [held_dn u hl h0 h1 a]
      have b := u.at h0 h1
      have := cnt_le (gL ws v) now
      omega
    · have a := hL v h0 h1
      rw [held_dn u hl h0 h1 a, held_at (n := c.eds.length) (flip_len l1) (flip_len l2) hl u'.le h0 h1]
      unfold hW
      rw [flip_gI l1 h0 h1]
      omega
  constructor
  · intro G
    have hL := lens.mp G.lens
    exact ⟨lens'.mpr hL, G.gap, G.up, fun now hn => (tch hL now).mp (G.touch now hn)⟩
  · intro G
    have hL := lens'.mp G.lens
    exact ⟨lens.mpr hL, G.gap, G.up, fun now hn => (tch hL now).mpr (G.touch now hn)⟩
theorem ways_flip (u : DnTo c st g) : WaysOk c t st g ws ↔ WaysOk (mir c) t (flipS c.eds st) (flipS c.eds g) ws :=
  ⟨fun h => ⟨flip_len u.sok.len, flip_len u.gok.len, h.lws, h.few, h.t0, h.t1, h.big⟩, fun h => ⟨u.sok.len, u.gok.len, h.lws, h.few, h.t0, h.t1, h.big⟩⟩
theorem cut_eds (fit : c.Fit) : cutC c c.eds = c := by
  have : c.bk.filter (keepB c.eds) = c.bk := List.filter_eq_self.mpr fun b hb => by
    have n := fit.ok.bk.num b hb
    unfold keepB
    rw [decide_eq_true n.2.2.2.1, decide_eq_true n.2.2.2.2.2.2.2.2]
    rfl
  unfold cutC
  rw [this]
theorem no_bad (fit : c.Fit) : ∀ b ∈ c.bk, bad c c.eds b = false := fun b hb => by
  have n := fit.ok.bk.num b hb
  unfold bad
  rw [decide_eq_true n.2.2.2.2.2.2.2.2]
  simp
theorem restX_cong (ok : StOk c st) {x y : Ex2 → Int} (h : ∀ q ∈ goingOf c st, x q = y q) : restX c.eds st x = restX c.eds st y := by
  unfold restX
  refine List.map_congr_left fun q hq => List.map_congr_left fun a ha => ?_
  have hi := List.mem_zipIdx_iff_getElem?.mp hq
  obtain ⟨hl', _⟩ := List.getElem?_eq_some_iff.mp hi
  obtain ⟨a1, a2⟩ := mem_rngI.mp ha
  have := ok.at (v := (q.2 : Int)) (by omega) (by omega)
  refine h _ (mem_going.mpr ⟨mem_everyEx.mpr ⟨?_, ?_, ?_, ?_⟩, ?_⟩)
  · show 0 ≤ (q.2 : Int)
    omega
  · show (q.2 : Int) < c.eds.length
    omega
  · show 1 ≤ a + 1
    omega
  · show a + 1 ≤ gI c.eds (q.2 : Int)
    rw [gI_at hi]
    omega
  · show gI st (q.2 : Int) < a + 1
    omega
end
end MA
namespace DL
open PySem PySem.Spec L2
open PyProof.Rows hiding St
open MA
theorem rest_uniq {c : Clk} {st : List Int} {t : Int} (ok : StOk c st) {r r' : Option (Ex2 → Int)} (h : RestPost c st t r) (h' : RestPost c st t r') : rsD c st r = rsD c st r' := by
  have key : ∀ x, RestPost c st t (some x) → ¬ RestPost c st t none := fun x ⟨⟨U, C⟩, Lm⟩ hn => by
    rcases hn with ⟨a, ha, hh⟩ | ⟨x', ⟨U', C'⟩, q, hq, v, Lv, hlt⟩
    · have := hh x C
      have := U.le a ha
      omega
    · have := U.low x' C' q hq
      have := U'.low x C q hq
      have := Lm q hq v Lv
      omega
  cases r with
  | none =>
    cases r' with
    | none => rfl
    | some x => exact absurd h (key x h')
  | some x =>
    cases r' with
    | none => exact absurd h' (key x h)
    | some x' =>
      obtain ⟨⟨U, C⟩, _⟩ := h
      obtain ⟨⟨U', C'⟩, _⟩ := h'
      show PyData.tuple _ = PyData.tuple _
      rw [restX_cong (x := x) (y := x') ok fun q hq => by
        have := U.low x' C' q hq
        have := U'.low x C q hq
        omega]
theorem same_law (c : Clk) (t : Int) (st : List Int) (L : ClkLaw c) (ok : StOk c st) : StOk c c.eds ∧ (∀ q ∈ st.zip c.eds, q.1 ≤ q.2) ∧ LedOk c st c.eds ∧ ∃ d, Alk 2 d ∧ LedS c t st c.eds (fun x => x = d) ∧ ∀ r, RestPost c st t r → rsD c st r = d := by
  have fit := L.fit
  have ok2 : StOk c c.eds := ⟨rfl, fun i x e h1 h2 => by
    rw [h1] at h2
    have := Option.some.inj h2
    have := fit.ok.eds.num x (List.mem_of_getElem? h1)
    omega⟩
  have le : ∀ q ∈ st.zip c.eds, q.1 ≤ q.2 := fun q hq => (ok.zip q hq).2
  refine ⟨ok2, le, ledOk_of fit ⟨ok, ok2, le⟩, ?_⟩
  have no : ∀ S : D → Prop, (∃ b ∈ c.bk, bad c c.eds b = true) → S .none := fun S ⟨b, hb, h⟩ => by
    rw [no_bad fit b hb] at h
    cases h
  by_cases h : ∃ r, RestPost c st t r
  · obtain ⟨r, hr⟩ := h
    have un : ∀ r', RestPost c st t r' → rsD c st r' = rsD c st r := fun r' h' => rest_uniq ok h' hr
    refine ⟨rsD c st r, ?_, ⟨no (fun z => z = rsD c st r), fun _ r' h' => ?_⟩, un⟩
    · cases r with
      | none => exact trivial
      | some x =>
        refine alk_wD (restX c.eds st x) ?_ ?_
        · rw [restX_len]
          have := fit.ok.eds.few
          omega
        · intro l hl
          unfold restX at hl
          obtain ⟨q, hq, rfl⟩ := List.mem_map.mp hl
          have hi := List.mem_zipIdx_iff_getElem?.mp hq
          have h4 := fit.ok.eds.num q.1 (List.mem_of_getElem? hi)
          obtain ⟨hl', _⟩ := List.getElem?_eq_some_iff.mp hi
          have := ok.at (v := (q.2 : Int)) (by omega) (by omega)
          rw [List.length_map, rngI_len]
          omega
    · rw [cut_eds fit] at h' ⊢
      exact un r' h'
  · refine ⟨.none, trivial, ⟨no (fun z => z = .none), fun _ r' h' => ?_⟩, fun r' h' => absurd ⟨r', h'⟩ h⟩
    rw [cut_eds fit] at h'
    exact absurd ⟨r', h'⟩ h
theorem told_flip {c : Clk} {t : Int} {st g : List Int} {d : D} (fit : c.Fit) (u : DnTo c st g) (h : ToldOk (mir c) t (flipS c.eds st) (flipS c.eds g) d) : ToldOk c t st g d := by
  unfold ToldOk at h ⊢
  rw [many_flip u] at h
  rcases h with ⟨e, h⟩ | ⟨w0, e, h1, h2, h3, h4⟩
  · exact .inl ⟨e, fun ws ok G => h ws ((ways_flip u).mp ok) ((goes_flip fit u ok.lws).mp G)⟩
  · have ok := (ways_flip u).mpr h1
    exact .inr ⟨w0, e, ok, (goes_flip fit u ok.lws).mpr h2, h3, fun ws ok' G => h4 ws ((ways_flip u).mp ok') ((goes_flip fit u ok'.lws).mp G)⟩
theorem back_law (c : Clk) (t : Int) (st g : List Int) (L : ClkLaw c) (t0 : 0 ≤ t) (t9 : t < 9) (h1 : StOk c st) (h2 : StOk c g) (le : ∀ q ∈ g.zip st, q.1 ≤ q.2) : LedOk (mir c) (flipS c.eds st) (flipS c.eds g) ∧ BestIn c t st g ∧ ∀ S : D → Prop, (∀ d, ToldOk c t st g d → S d) → LedS (mir c) t (flipS c.eds st) (flipS c.eds g) S := by
  have u : DnTo c st g := ⟨h1, h2, le⟩
  have u' := u.flip
  have L' : ClkLaw (mir c) := ⟨mirFit c L.fit, L.p4, L.w3, L.s3⟩
  obtain ⟨a, _, b⟩ := on_law (mir c) t _ _ L' t0 t9 u'.sok u'.gok u'.le
  exact ⟨a, best_in L t0 t9 h1 h2, fun S hS => b S fun d hd => hS d (told_flip L.fit u hd)⟩
end DL
end
section
set_option Elab.async false
set_option linter.all false
set_option autoImplicit false
set_option maxRecDepth 100000
set_option maxHeartbeats 2000000
/-! Plain: backwards; reversal. -/
namespace MA
open DL (Goes Leans rngI_len)
theorem modeq {p x y : Int} : x % p = y % p ↔ ∃ k, x = y + p * k := by
  constructor
  · intro h
    refine ⟨x / p - y / p, ?_⟩
    have a := Int.mul_ediv_add_emod x p
    have b := Int.mul_ediv_add_emod y p
    rw [Int.mul_sub]
    omega
  · rintro ⟨k, rfl⟩
    exact Int.add_mul_emod_self_left y p k
theorem mod_neg {p x y d : Int} (h0 : 0 ≤ x) (h1 : x < p) : (d - x) % p = y % p ↔ x = (d - y) % p := by
  constructor
  · intro h
    obtain ⟨k, hk⟩ := modeq.mp h
    have : x % p = (d - y) % p := modeq.mpr ⟨-k, by rw [Int.mul_neg]; omega⟩
    rw [← this]
    exact (Int.emod_eq_of_lt h0 h1).symm
  · intro h
    have : x % p = (d - y) % p := by rw [h, Int.emod_emod_of_dvd _ (Int.dvd_refl p)]
    obtain ⟨k, hk⟩ := modeq.mp this
    exact modeq.mpr ⟨-k, by rw [Int.mul_neg]; omega⟩
theorem mem_bwT {c : Clk} {t : Int × Int × Int} : t ∈ bwT c ↔ ∃ s ∈ c.tch, t = ((-1 - s.1) % c.p, s.2.1, s.2.2) := by
  unfold bwT
  rw [List.mem_map]
  constructor
  · rintro ⟨k, hk, rfl⟩
    obtain ⟨s, hs, rfl⟩ := List.mem_map.mp (srtK_mem.mp hk)
    exact ⟨s, hs, rfl⟩
  · rintro ⟨s, hs, rfl⟩
    exact ⟨_, srtK_mem.mpr (List.mem_map.mpr ⟨s, hs, rfl⟩), rfl⟩
theorem gL_map {l : List (List Int)} {f : List Int → List Int} {w : Int} (h : f [] = []) : gL (l.map f) w = f (gL l w) := by
  unfold gL
  rw [List.getD_eq_getElem?_getD, List.getD_eq_getElem?_getD, List.getElem?_map]
  cases l[w.toNat]? with
  | none => exact h.symm
  | some x => rfl
def bwGap (p : Int) (g : List Int) : List Int := (g.map fun x => (-x) % p).mergeSort fun x y => decide (x ≤ y)
theorem mem_bwGap {p : Int} {g : List Int} {x : Int} : x ∈ bwGap p g ↔ ∃ y ∈ g, (-y) % p = x := by
  unfold bwGap
  rw [List.mem_mergeSort, List.mem_map]
theorem bwGap_up {p : Int} {g : List Int} (h : g.Pairwise (· < ·)) (hn : ∀ x ∈ g, 0 ≤ x ∧ x ≤ p - 1) : (bwGap p g).Pairwise (· < ·) := by
  have nd : (g.map fun x => (-x) % p).Nodup := by
    show List.Pairwise (· ≠ ·) _
    rw [List.pairwise_map]
    refine h.imp_of_mem fun {a b} ha hb lt e => ?_
    have h1 := hn a ha
    have h2 := hn b hb
    have e : (0 - a) % p = (0 - b) % p := by simpa using e
    have := (mod_neg (y := 0 - b) (d := 0) h1.1 (by omega : a < p)).mp (by rw [e])
    rw [show (0 : Int) - (0 - b) = b by omega, Int.emod_eq_of_lt h2.1 (by omega)] at this
    omega
  have nd' : (bwGap p g).Nodup := (List.mergeSort_perm _ _).nodup_iff.mpr nd
  have so := List.pairwise_mergeSort (le := fun x y : Int => decide (x ≤ y)) (fun a b c h1 h2 => by
    rw [decide_eq_true_iff] at h1 h2 ⊢
    omega) (fun a b => by
    rw [Bool.or_eq_true, decide_eq_true_iff, decide_eq_true_iff]
    omega) (g.map fun x => (-x) % p)
  refine (so.and nd').imp fun {a b} h => ?_
  have h1 := of_decide_eq_true h.1
  have h2 := h.2
  omega
theorem bwFit (c : Clk) (fit : c.Fit) : (bw0 c).Fit where
  t := by
    show (bwT c).length ≤ 1000
    unfold bwT srtK
    rw [List.length_map, List.length_mergeSort, List.length_map]
    exact fit.t
  b := fit.b
  ok := {
    p1 := fit.ok.p1
    p2 := fit.ok.p2
    eds := fit.ok.eds
    bk := fit.ok.bk
    tch := ⟨fun t ht => by
      obtain ⟨s, hs, rfl⟩ := mem_bwT.mp ht
      have n := fit.ok.tch.num s hs
      have hp := fit.ok.p1
      have a := Int.emod_nonneg (-1 - s.1) (by omega : c.p ≠ 0)
      have b := Int.emod_lt_of_pos (-1 - s.1) (by omega : 0 < c.p)
      exact ⟨a, by show (-1 - s.1) % c.p ≤ c.p - 1; omega, n.2.2⟩, by
      show (bwT c).Pairwise lex3
      refine srtK_lex ?_ fun k hk => ?_
      · show List.Pairwise (· ≠ ·) _
        rw [List.pairwise_map]
        refine fit.ok.tch.up.imp_of_mem fun {a b} ha hb lt e => ?_
        have h1 := fit.ok.tch.num a ha
        have h2 := fit.ok.tch.num b hb
        injection e with e1 e2
        injection e2 with e2 e3
        injection e3 with e3 _
        have := (mod_neg (y := -1 - b.1) (d := -1) h1.1 (by omega : a.1 < c.p)).mp (by rw [e1])
        rw [show (-1 : Int) - (-1 - b.1) = b.1 by omega, Int.emod_eq_of_lt h2.1 (by omega)] at this
        have ab : a = b := Prod.ext this (Prod.ext e2 e3)
        rw [ab] at lt
        exact lex3_irr lt
      · obtain ⟨s, _, rfl⟩ := List.mem_map.mp hk
        exact ⟨_, _, _, rfl⟩⟩
    gps := ⟨by
      show (c.gps.map (bwGap c.p)).length = c.eds.length
      rw [List.length_map]
      exact fit.ok.gps.len, fun g hg x hx => by
      obtain ⟨g0, h0, rfl⟩ := List.mem_map.mp (show g ∈ c.gps.map (bwGap c.p) from hg)
      obtain ⟨y, hy, rfl⟩ := mem_bwGap.mp hx
      have hp := fit.ok.p1
      have a := Int.emod_nonneg (-y) (by omega : c.p ≠ 0)
      have b := Int.emod_lt_of_pos (-y) (by omega : 0 < c.p)
      exact ⟨a, by show (-y) % c.p ≤ c.p - 1; omega⟩, fun g hg => by
      obtain ⟨g0, h0, rfl⟩ := List.mem_map.mp (show g ∈ c.gps.map (bwGap c.p) from hg)
      exact bwGap_up (fit.ok.gps.up g0 h0) (fit.ok.gps.num g0 h0), fun i e he h0 g hg => by
      have hg : (c.gps.map (bwGap c.p))[i]? = some g := hg
      rw [List.getElem?_map] at hg
      cases hg0 : c.gps[i]? with
      | none =>
        rw [hg0] at hg
        cases hg
      | some g0 =>
        rw [hg0] at hg
        have := Option.some.inj hg
        subst this
        have ne := fit.ok.gps.some_ i e he h0 g0 hg0
        intro z
        obtain ⟨y, hy⟩ := List.exists_mem_of_ne_nil _ ne
        have : (-y) % c.p ∈ bwGap c.p g0 := mem_bwGap.mpr ⟨y, hy, rfl⟩
        rw [z] at this
        cases this⟩ }
section
variable {c : Clk}
theorem bw_touch (fit : c.Fit) {a b u : Int} : atTouch (bw c) a b u = true ↔ atTouch c a b (-1 - u) = true := by
  rw [touch_iff, touch_iff]
  show (u % c.p, min a b, max a b) ∈ bwT c ↔ _
  rw [mem_bwT]
  constructor
  · rintro ⟨s, hs, e⟩
    have n := fit.ok.tch.num s hs
    injection e with e1 e2
    injection e2 with e2 e3
    have := (mod_neg (y := u) (d := -1) n.1 (by omega : s.1 < c.p)).mp e1.symm
    have : s = ((-1 - u) % c.p, min a b, max a b) := Prod.ext this (Prod.ext e2.symm e3.symm)
    rw [← this]
    exact hs
  · intro h
    have n := fit.ok.tch.num _ h
    have n0 : 0 ≤ (-1 - u) % c.p := n.1
    have n1 : (-1 - u) % c.p ≤ c.p - 1 := n.2.1
    refine ⟨_, h, ?_⟩
    show (u % c.p, min a b, max a b) = ((-1 - (-1 - u) % c.p) % c.p, min a b, max a b)
    rw [(mod_neg (x := (-1 - u) % c.p) (y := u) (d := -1) n0 (by omega)).mpr rfl]
theorem bw_gap (fit : c.Fit) {w s : Int} : inGap (bw c) w s = true ↔ inGap c w (-s) = true := by
  unfold inGap
  rw [decide_eq_true_iff, decide_eq_true_iff]
  show s % c.p ∈ gL (c.gps.map (bwGap c.p)) w ↔ _
  rw [gL_map (f := bwGap c.p) (by unfold bwGap; simp), mem_bwGap]
  have hn : ∀ y ∈ gL c.gps w, 0 ≤ y ∧ y ≤ c.p - 1 := fun y hy => by
    unfold gL at hy
    rw [List.getD_eq_getElem?_getD] at hy
    cases hg : c.gps[w.toNat]? with
    | none =>
      rw [hg] at hy
      cases hy
    | some g =>
      rw [hg] at hy
      exact fit.ok.gps.num g (List.mem_of_getElem? hg) y hy
  constructor
  · rintro ⟨y, hy, e⟩
    have n := hn y hy
    have := (mod_neg (p := c.p) (x := y) (y := s) (d := 0) n.1 (by omega)).mp (by rw [Int.zero_sub]; exact e)
    rw [Int.zero_sub] at this
    rw [← this]
    exact hy
  · intro h
    have n := hn _ h
    refine ⟨_, h, ?_⟩
    have := (mod_neg (p := c.p) (x := (-s) % c.p) (y := s) (d := 0) n.1 (by omega)).mpr (by rw [Int.zero_sub])
    rw [Int.zero_sub] at this
    exact this
theorem gap_per {w s m : Int} : inGap c w (s + c.p * m) = inGap c w s := by
  unfold inGap
  rw [Int.add_mul_emod_self_left]
theorem touch_per {a b s m : Int} : atTouch c a b (s + c.p * m) = atTouch c a b s := by
  unfold atTouch
  rw [Int.add_mul_emod_self_left]
/-- closed, by the book's entries -/
structure ClS (c : Clk) (y : Ex2 → Int) : Prop where
  gap : ∀ q ∈ everyEx c.eds, inGap c q.1 (y q) = true
  inc : ∀ v e : Int, (v, e) ∈ everyEx c.eds → (v, e + 1) ∈ everyEx c.eds → y (v, e) < y (v, e + 1)
  tch : ∀ b ∈ c.bk, ∀ u, atTouch c b.1 b.2.2.1 u = true → u < y (b.2.2.1, b.2.2.2) → u < y (b.1, b.2.1)
theorem ClS.lt {y : Ex2 → Int} (h : ClS c y) {v e : Int} (h1 : (v, e) ∈ everyEx c.eds) : ∀ n : Nat, (v, e + (n : Int)) ∈ everyEx c.eds → y (v, e) ≤ y (v, e + (n : Int))
  | 0, _ => by
    rw [show e + ((0 : Nat) : Int) = e by omega]
    exact Int.le_refl _
  | n + 1, h2 => by
    obtain ⟨a1, a2, a3, a4⟩ := mem_everyEx.mp h1
    obtain ⟨b1, b2, b3, b4⟩ := mem_everyEx.mp h2
    have a3 : 1 ≤ e := a3
    have b4 : e + ((n + 1 : Nat) : Int) ≤ gI c.eds v := b4
    have hm : (v, e + (n : Int)) ∈ everyEx c.eds := mem_everyEx.mpr ⟨a1, a2, by show 1 ≤ e + (n : Int); omega, by show e + (n : Int) ≤ gI c.eds v; omega⟩
    have ih := h.lt h1 n hm
    have z : e + ((n + 1 : Nat) : Int) = e + (n : Int) + 1 := by omega
    rw [z] at h2 ⊢
    have := h.inc v _ hm h2
    omega
theorem ClS.mono {y : Ex2 → Int} (h : ClS c y) {v e e' : Int} (h1 : (v, e) ∈ everyEx c.eds) (h2 : (v, e') ∈ everyEx c.eds) (le : e ≤ e') : y (v, e) ≤ y (v, e') := by
  have z : e' = e + ((e' - e).toNat : Int) := by omega
  rw [z] at h2 ⊢
  exact h.lt h1 _ h2
theorem lean_in (fit : c.Fit) {l : Ex2 × Ex2} (h : l ∈ everyLean c) : l.1 ∈ everyEx c.eds ∧ l.2 ∈ everyEx c.eds := by
  obtain ⟨h1, h2⟩ := mem_everyLean.mp h
  refine ⟨h1, ?_⟩
  obtain ⟨a1, a2, a3, a4⟩ := mem_everyEx.mp h1
  rcases h2 with ⟨q, e⟩ | ⟨q1, q2, q3, q4, q5, q6⟩
  · rw [e]
    exact mem_everyEx.mpr ⟨a1, a2, by show 1 ≤ l.1.2 - 1; omega, by show l.1.2 - 1 ≤ gI c.eds l.1.1; omega⟩
  · have := leastN_le fit.ok.bk q5
    exact mem_everyEx.mpr ⟨q2, q3, by omega, by omega⟩
theorem lean_of (fit : c.Fit) {l : Ex2 × Ex2} (h : l ∈ everyLean c) : Leans c l.1 l.2 := by
  obtain ⟨a, b⟩ := lean_in fit h
  refine ⟨goes_of a, goes_of b, fun ne => ?_⟩
  rcases (mem_everyLean.mp h).2 with ⟨_, e⟩ | q
  · exact absurd (by rw [e]) ne
  · exact q.2.2.2.1
theorem clS_iff (fit : c.Fit) {y : Ex2 → Int} : ((∀ q ∈ everyEx c.eds, inGap c q.1 (y q) = true) ∧ ∀ l ∈ everyLean c, pushF c l.1 l.2 (y l.2) ≤ y l.1) ↔ ClS c y := by
  constructor
  · rintro ⟨gp, ps⟩
    have inc : ∀ v e : Int, (v, e) ∈ everyEx c.eds → (v, e + 1) ∈ everyEx c.eds → y (v, e) < y (v, e + 1) := fun v e h1 h2 => by
      obtain ⟨a1, a2, a3, a4⟩ := mem_everyEx.mp h1
      have a3 : 1 ≤ e := a3
      have hl : (((v, e + 1), (v, e)) : Ex2 × Ex2) ∈ everyLean c := mem_everyLean.mpr ⟨h2, .inl ⟨by show 1 < e + 1; omega, by
        show (v, e) = (v, e + 1 - 1)
        rw [show e + 1 - 1 = e by omega]⟩⟩
      have := (pushF_le fit (lean_of fit hl) (gp _ h2)).mp (ps _ hl)
      rw [if_pos rfl] at this
      exact this
    have C0 : ∀ b : Int × Int × Int × Int, b ∈ c.bk → ∀ u, atTouch c b.1 b.2.2.1 u = true → u < y (b.2.2.1, leastN c b.1 b.2.1 b.2.2.1) → u < y (b.1, b.2.1) := fun b hb u ht hu => by
      have n := fit.ok.bk.num b hb
      have l1 : b.2.2.2 ≤ leastN c b.1 b.2.1 b.2.2.1 := asks_le ⟨b, hb, rfl, rfl, Int.le_refl _, rfl⟩
      have h1 : (b.1, b.2.1) ∈ everyEx c.eds := mem_everyEx.mpr ⟨n.1, by have := n.2.1; show b.1 < _; omega, n.2.2.1, n.2.2.2.1⟩
      have hl : (((b.1, b.2.1), (b.2.2.1, leastN c b.1 b.2.1 b.2.2.1)) : Ex2 × Ex2) ∈ everyLean c := mem_everyLean.mpr ⟨h1, .inr ⟨fun z => n.2.2.2.2.2.2.1 z.symm, n.2.2.2.2.1, by have := n.2.2.2.2.2.1; show b.2.2.1 < _; omega, touch_ne ht, by have := n.2.2.2.2.2.2.2.1; show 0 < leastN c b.1 b.2.1 b.2.2.1; omega, rfl⟩⟩
      have := (pushF_le fit (lean_of fit hl) (gp _ h1)).mp (ps _ hl)
      rw [if_neg n.2.2.2.2.2.2.1] at this
      exact this u ht hu
    have S0 : ClS { c with bk := [] } y := ⟨gp, inc, fun b hb => nomatch hb⟩
    refine ⟨gp, inc, fun b hb u ht hu => C0 b hb u ht ?_⟩
    have n := fit.ok.bk.num b hb
    have l1 : b.2.2.2 ≤ leastN c b.1 b.2.1 b.2.2.1 := asks_le ⟨b, hb, rfl, rfl, Int.le_refl _, rfl⟩
    have l0 : 0 < leastN c b.1 b.2.1 b.2.2.1 := by have := n.2.2.2.2.2.2.2.1; omega
    have l2 := leastN_le fit.ok.bk l0
    have o1 : b.2.2.1 < c.eds.length := by have := n.2.2.2.2.2.1; omega
    have := S0.mono (v := b.2.2.1) (e := b.2.2.2) (e' := leastN c b.1 b.2.1 b.2.2.1) (mem_everyEx.mpr ⟨n.2.2.2.2.1, o1, n.2.2.2.2.2.2.2.1, n.2.2.2.2.2.2.2.2⟩) (mem_everyEx.mpr ⟨n.2.2.2.2.1, o1, by show 1 ≤ leastN c b.1 b.2.1 b.2.2.1; omega, l2⟩) l1
    omega
  · intro S
    refine ⟨S.gap, fun l hl => ?_⟩
    obtain ⟨m1, m2⟩ := lean_in fit hl
    rw [pushF_le fit (lean_of fit hl) (S.gap _ m1)]
    rcases (mem_everyLean.mp hl).2 with ⟨q, e⟩ | ⟨q1, q2, q3, q4, q5, q6⟩
    · have e1 : l.1.1 = l.2.1 := by rw [e]
      rw [if_pos e1]
      have h1 : (l.1.1, l.1.2 - 1) ∈ everyEx c.eds := by rw [← e]; exact m2
      have h2 : (l.1.1, l.1.2 - 1 + 1) ∈ everyEx c.eds := by rw [show l.1.2 - 1 + 1 = l.1.2 by omega]; exact m1
      have := S.inc _ _ h1 h2
      rw [show l.1.2 - 1 + 1 = l.1.2 by omega, ← e] at this
      exact this
    · rw [if_neg fun z => q1 z.symm]
      intro u ht hu
      obtain ⟨b, hb, p1, p2, p3, p4⟩ := leastN_asks (c := c) (w := l.1.1) (e := l.1.2) (o := l.2.1) (by omega)
      have n := fit.ok.bk.num b hb
      have e2 : l.2 = (b.2.2.1, b.2.2.2) := Prod.ext p2.symm (by rw [q6, p4])
      have h := S.tch b hb u (by rw [p1, p2]; exact ht) (by rw [← e2]; exact hu)
      obtain ⟨a1, a2, a3, a4⟩ := mem_everyEx.mp m1
      have := S.mono (v := l.1.1) (e := b.2.1) (e' := l.1.2) (mem_everyEx.mpr ⟨a1, a2, n.2.2.1, by show b.2.1 ≤ gI c.eds l.1.1; omega⟩) m1 p3
      rw [p1] at h
      have : y (l.1.1, b.2.1) ≤ y l.1 := this
      omega
def rv (c : Clk) (K : Int) (x : Ex2 → Int) : Ex2 → Int := fun q => K - x (q.1, gI c.eds q.1 - q.2 + 1)
theorem rv_in {q : Ex2} (h : q ∈ everyEx c.eds) : (q.1, gI c.eds q.1 - q.2 + 1) ∈ everyEx c.eds := by
  obtain ⟨a1, a2, a3, a4⟩ := mem_everyEx.mp h
  exact mem_everyEx.mpr ⟨a1, a2, by show 1 ≤ gI c.eds q.1 - q.2 + 1; omega, by show gI c.eds q.1 - q.2 + 1 ≤ gI c.eds q.1; omega⟩
theorem rv_inc {x : Ex2 → Int} {K : Int} (h : ∀ v e : Int, (v, e) ∈ everyEx c.eds → (v, e + 1) ∈ everyEx c.eds → x (v, e) < x (v, e + 1)) : ∀ v e : Int, (v, e) ∈ everyEx c.eds → (v, e + 1) ∈ everyEx c.eds → rv c K x (v, e) < rv c K x (v, e + 1) := fun v e h1 h2 => by
  have a := rv_in h1
  have b := rv_in h2
  have z1 : gI c.eds v - (e + 1) + 1 = gI c.eds v - e := by omega
  have b : (v, gI c.eds v - (e + 1) + 1) ∈ everyEx c.eds := b
  rw [z1] at b
  have := h v _ b a
  show K - x (v, gI c.eds v - e + 1) < K - x (v, gI c.eds v - (e + 1) + 1)
  rw [z1]
  omega
theorem rv_back (fit : c.Fit) {K m : Int} (hK : K = c.p * m) {x : Ex2 → Int} (S : ClS (bw c) x) : ClS c (rv c K x) := by
  have fb := bwFit c fit
  refine ⟨fun q hq => ?_, rv_inc S.inc, fun b hb u ht hu => ?_⟩
  · have := (bw_gap fit).mp (S.gap _ (rv_in hq))
    show inGap c q.1 (K - x (q.1, gI c.eds q.1 - q.2 + 1)) = true
    rw [show K - x (q.1, gI c.eds q.1 - q.2 + 1) = -x (q.1, gI c.eds q.1 - q.2 + 1) + c.p * m by omega, gap_per]
    exact this
  · have n := fit.ok.bk.num b hb
    obtain ⟨E, hE, le⟩ := mir_above (c := bw0 c) fb.ok.bk hb
    have le : gI c.eds b.1 - b.2.1 + 1 ≤ E := le
    have nE := (mirFit _ fb).ok.bk.num _ hE
    have hE2 : E ≤ gI c.eds b.1 := nE.2.2.2.2.2.2.2.2
    have w1 : b.1 < c.eds.length := by have := n.2.1; omega
    have t' : atTouch (bw c) b.2.2.1 b.1 (K - 1 - u) = true := by
      rw [bw_touch fit, touch_comm, show -1 - (K - 1 - u) = u + c.p * -m by rw [Int.mul_neg]; omega, touch_per]
      exact ht
    have h := S.tch _ hE (K - 1 - u) t'
    have h : K - 1 - u < x (b.1, E) → K - 1 - u < x (b.2.2.1, gI c.eds b.2.2.1 - b.2.2.2 + 1) := h
    have mo : x (b.1, gI c.eds b.1 - b.2.1 + 1) ≤ x (b.1, E) := S.mono (mem_everyEx.mpr ⟨n.1, w1, by show 1 ≤ gI c.eds b.1 - b.2.1 + 1; have := n.2.2.2.1; omega, by show gI c.eds b.1 - b.2.1 + 1 ≤ gI c.eds b.1; have := n.2.2.1; omega⟩) (mem_everyEx.mpr ⟨n.1, w1, by show 1 ≤ E; have := n.2.2.2.1; omega, hE2⟩) le
    have hu : u < K - x (b.2.2.1, gI c.eds b.2.2.1 - b.2.2.2 + 1) := hu
    show u < K - x (b.1, gI c.eds b.1 - b.2.1 + 1)
    omega
theorem rv_on (fit : c.Fit) {K m : Int} (hK : K = c.p * m) {y : Ex2 → Int} (S : ClS c y) : ClS (bw c) (rv c K y) := by
  have fb := bwFit c fit
  refine ⟨fun q hq => ?_, rv_inc S.inc, fun b hb u ht hu => ?_⟩
  · rw [bw_gap fit]
    have := S.gap _ (rv_in (c := c) hq)
    show inGap c q.1 (-(K - y (q.1, gI c.eds q.1 - q.2 + 1))) = true
    rw [show -(K - y (q.1, gI c.eds q.1 - q.2 + 1)) = y (q.1, gI c.eds q.1 - q.2 + 1) + c.p * -m by rw [Int.mul_neg]; omega, gap_per]
    exact this
  · have h1 := ((mem_mir (c := bw0 c) fb.ok.bk).mp hb).1
    have t' : atTouch c b.2.2.1 b.1 (K - 1 - u) = true := by
      rw [touch_comm, show K - 1 - u = -1 - u + c.p * m by omega, touch_per]
      exact (bw_touch fit).mp ht
    have h : K - 1 - u < y (b.1, gI c.eds b.1 - b.2.1 + 1) → K - 1 - u < y (b.2.2.1, gI c.eds b.2.2.1 - b.2.2.2 + 1) := S.tch _ h1 (K - 1 - u) t'
    have hu : u < K - y (b.2.2.1, gI c.eds b.2.2.1 - b.2.2.2 + 1) := hu
    show u < K - y (b.1, gI c.eds b.1 - b.2.1 + 1)
    omega
end
end MA
end
section
set_option Elab.async false
set_option linter.all false
set_option autoImplicit false
set_option maxRecDepth 100000
set_option maxHeartbeats 2000000
/-! Plain: the earliest backwards is the latest. -/
namespace MA
open DL (Goes Leans rngI_len)
section
variable {c : Clk}
theorem mem_lean (fit : c.Fit) {l : Ex2 × Ex2} : l ∈ leansIn c (everyEx c.eds) ↔ l ∈ everyLean c := by
  unfold leansIn
  rw [List.mem_filter]
  refine ⟨fun h => h.1, fun h => ⟨h, ?_⟩⟩
  obtain ⟨a, b⟩ := lean_in fit h
  rw [Bool.and_eq_true, decide_eq_true_iff, decide_eq_true_iff]
  exact ⟨a, b⟩
theorem cl_clS (fit : c.Fit) {t0 : Int} {y : Ex2 → Int} : Cl c (everyEx c.eds) (leansIn c (everyEx c.eds)) t0 y ↔ (∀ q ∈ everyEx c.eds, t0 ≤ y q) ∧ ClS c y := by
  constructor
  · intro C
    exact ⟨C.lo, (clS_iff fit).mp ⟨C.gap, fun l hl => C.push l ((mem_lean fit).mpr hl)⟩⟩
  · rintro ⟨lo, S⟩
    obtain ⟨a, b⟩ := (clS_iff fit).mpr S
    exact ⟨lo, a, fun l hl => b l ((mem_lean fit).mp hl)⟩
theorem cu_clS (fit : c.Fit) {t1 : Int} {y : Ex2 → Int} : Cu c (everyEx c.eds) (everyLean c) t1 y ↔ (∀ q ∈ everyEx c.eds, y q ≤ t1) ∧ ClS c y := by
  constructor
  · intro C
    exact ⟨C.hi, (clS_iff fit).mp ⟨C.gap, C.push⟩⟩
  · rintro ⟨hi, S⟩
    obtain ⟨a, b⟩ := (clS_iff fit).mpr S
    exact ⟨hi, a, b⟩
theorem len_of_sub {α : Type} [DecidableEq α] : ∀ {l m : List α}, l.Nodup → (∀ x ∈ l, x ∈ m) → l.length ≤ m.length
  | [], _, _, _ => Nat.zero_le _
  | x :: l, m, h, hs => by
    obtain ⟨h1, h2⟩ := List.nodup_cons.mp h
    have hx := hs x List.mem_cons_self
    have ih := len_of_sub (l := l) (m := m.erase x) h2 fun y hy => (List.mem_erase_of_ne fun z => h1 (by rw [← z]; exact hy)).mpr (hs y (List.mem_cons_of_mem _ hy))
    rw [List.length_erase_of_mem hx] at ih
    have : 0 < m.length := List.length_pos_of_mem hx
    rw [List.length_cons]
    omega
/-- all from j p on, one period sooner -/
def dnF (p b : Int) (x : Ex2 → Int) : Ex2 → Int := fun q => if x q < b then x q else x q - p
theorem dn_clS (fit : c.Fit) {x : Ex2 → Int} (S : ClS c x) {b : Int} (hb : ∀ q ∈ everyEx c.eds, x q < b ∨ b + c.p ≤ x q) : ClS c (dnF c.p b x) := by
  have hp := fit.ok.p1
  have up : ∀ q ∈ everyEx c.eds, (x q < b ∧ dnF c.p b x q = x q) ∨ (b + c.p ≤ x q ∧ dnF c.p b x q = x q - c.p) := fun q hq => by
    unfold dnF
    rcases hb q hq with h | h
    · exact .inl ⟨h, if_pos h⟩
    · exact .inr ⟨h, if_neg (by omega)⟩
  refine ⟨fun q hq => ?_, fun v e h1 h2 => ?_, fun e he u ht hu => ?_⟩
  · have := S.gap q hq
    rcases up q hq with ⟨_, e⟩ | ⟨_, e⟩
    · rw [e]
      exact this
    · rw [e, show x q - c.p = x q + c.p * (-1) by rw [Int.mul_neg, Int.mul_one]; omega, gap_per]
      exact this
  · have := S.inc v e h1 h2
    rcases up _ h1 with ⟨a1, a2⟩ | ⟨a1, a2⟩ <;> rcases up _ h2 with ⟨b1, b2⟩ | ⟨b1, b2⟩ <;> (rw [a2, b2]; omega)
  · have n := fit.ok.bk.num e he
    have hw : (e.1, e.2.1) ∈ everyEx c.eds := mem_everyEx.mpr ⟨n.1, by have := n.2.1; show e.1 < _; omega, n.2.2.1, n.2.2.2.1⟩
    have ho : (e.2.2.1, e.2.2.2) ∈ everyEx c.eds := mem_everyEx.mpr ⟨n.2.2.2.2.1, by have := n.2.2.2.2.2.1; show e.2.2.1 < _; omega, n.2.2.2.2.2.2.2.1, n.2.2.2.2.2.2.2.2⟩
    have s1 := S.tch e he u ht
    have s2 := S.tch e he (u + c.p * 1) (by rw [touch_per]; exact ht)
    rw [Int.mul_one] at s2
    rcases up _ hw with ⟨a1, a2⟩ | ⟨a1, a2⟩ <;> rcases up _ ho with ⟨b1, b2⟩ | ⟨b1, b2⟩ <;> (rw [a2]; rw [b2] at hu; omega)
/-- the least has no gap of a whole period in it -/
theorem least_short (fit : c.Fit) {x : Ex2 → Int} (S : ClS c x) (h0 : ∀ q ∈ everyEx c.eds, 0 ≤ x q) (low : ∀ y, Cl c (everyEx c.eds) (leansIn c (everyEx c.eds)) 0 y → ∀ q ∈ everyEx c.eds, x q ≤ y q) : ∀ q ∈ everyEx c.eds, x q < ((everyEx c.eds).length : Int) * c.p := by
  have hp := fit.ok.p1
  intro q0 hq0
  refine Int.not_le.mp fun hge => ?_
  have band : ∀ j : Nat, j < (everyEx c.eds).length → ∃ q ∈ everyEx c.eds, (j : Int) * c.p ≤ x q ∧ x q < ((j : Int) + 1) * c.p := fun j hj => by
    refine Classical.byContradiction fun hno => ?_
    have m1 : ((j : Int) + 1) * c.p = (j : Int) * c.p + c.p := by rw [Int.add_mul, Int.one_mul]
    have hb : ∀ q ∈ everyEx c.eds, x q < (j : Int) * c.p ∨ (j : Int) * c.p + c.p ≤ x q := fun q hq => by
      by_cases h1 : x q < (j : Int) * c.p
      · exact .inl h1
      · refine .inr ?_
        rw [← m1]
        exact Int.not_lt.mp fun h2 => hno ⟨q, hq, by omega, h2⟩
    have j0 : 0 ≤ (j : Int) * c.p := Int.mul_nonneg (by omega) (by omega)
    have C : Cl c (everyEx c.eds) (leansIn c (everyEx c.eds)) 0 (dnF c.p ((j : Int) * c.p) x) := (cl_clS fit).mpr ⟨fun q hq => by
      have := h0 q hq
      unfold dnF
      rcases hb q hq with h | h
      · rw [if_pos h]
        exact this
      · rw [if_neg (by omega)]
        omega, dn_clS fit S hb⟩
    have h1 := low _ C q0 hq0
    have h2 : (j : Int) * c.p ≤ ((everyEx c.eds).length : Int) * c.p := Int.mul_le_mul_of_nonneg_right (by omega) (by omega)
    unfold dnF at h1
    rw [if_neg (by omega)] at h1
    omega
  have key : ((everyEx c.eds).length + 1) ≤ ((everyEx c.eds).map fun q => (x q / c.p).toNat).length := by
    have nd : ((x q0 / c.p).toNat :: List.range (everyEx c.eds).length).Nodup := by
      refine List.nodup_cons.mpr ⟨fun h => ?_, List.nodup_range⟩
      have h1 := List.mem_range.mp h
      have h2 : ((everyEx c.eds).length : Int) ≤ x q0 / c.p := (Int.le_ediv_iff_mul_le (by omega)).mpr hge
      omega
    have := len_of_sub nd (m := (everyEx c.eds).map fun q => (x q / c.p).toNat) fun k hk => by
      rcases List.mem_cons.mp hk with e | hk
      · exact List.mem_map.mpr ⟨q0, hq0, e.symm⟩
      · obtain ⟨q, hq, h1, h2⟩ := band k (List.mem_range.mp hk)
        refine List.mem_map.mpr ⟨q, hq, ?_⟩
        have h3 := (Int.le_ediv_iff_mul_le (by omega : 0 < c.p)).mpr h1
        have h4 := (Int.ediv_lt_iff_lt_mul (by omega : 0 < c.p)).mpr h2
        show (x q / c.p).toNat = k
        omega
    rw [List.length_cons, List.length_range] at this
    exact this
  rw [List.length_map] at key
  omega
theorem none_law (c : Clk) (r : Option (Ex2 → Int)) (fit : c.Fit) (h : DL.leastPost (bw c) none) (hr : DL.leastPost c r) : r = none := by
  cases r with
  | none => rfl
  | some x =>
    have fb : (bw c).Fit := mirFit _ (bwFit c fit)
    have hp := fit.ok.p1
    obtain ⟨U, C⟩ := hr
    obtain ⟨lo, S⟩ := (cl_clS fit).mp C
    have sh := least_short fit S lo U.low
    obtain ⟨a, ha, hh⟩ := h
    have ha : a ∈ everyEx c.eds := ha
    have R := rv_on fit (K := c.p * ((everyEx c.eds).length : Int)) rfl S
    have eK : c.p * ((everyEx c.eds).length : Int) = ((everyEx c.eds).length : Int) * c.p := Int.mul_comm _ _
    have C' : Cl (bw c) (everyEx (bw c).eds) (leansIn (bw c) (everyEx (bw c).eds)) 0 (rv c (c.p * ((everyEx c.eds).length : Int)) x) := (cl_clS fb).mpr ⟨fun q hq => by
      have := sh _ (rv_in (c := c) hq)
      show 0 ≤ c.p * ((everyEx c.eds).length : Int) - x (q.1, gI c.eds q.1 - q.2 + 1)
      rw [eK]
      omega, R⟩
    have h1 := hh _ C'
    have h2 := lo _ (rv_in ha)
    have h1 : 0 + 2 * c.p * max 1 ((everyEx c.eds).length : Int) - 1 < c.p * ((everyEx c.eds).length : Int) - x (a.1, gI c.eds a.1 - a.2 + 1) := h1
    have hn : 0 < (everyEx c.eds).length := List.length_pos_of_mem ha
    have e1 : max 1 ((everyEx c.eds).length : Int) = ((everyEx c.eds).length : Int) := by omega
    rw [e1, Int.mul_assoc] at h1
    have h3 : 1 * 1 ≤ c.p * ((everyEx c.eds).length : Int) := Int.mul_le_mul hp (by omega) (by decide) (by omega)
    omega
theorem planX_mem {x : Ex2 → Int} {q : Ex2} (h : q ∈ everyEx c.eds) : x q ∈ (planX c.eds x).flatten := by
  obtain ⟨a1, a2, a3, a4⟩ := mem_everyEx.mp h
  unfold planX
  refine List.mem_flatten.mpr ⟨_, List.mem_map.mpr ⟨(gI c.eds q.1, q.1.toNat), List.mem_zipIdx_iff_getElem?.mpr (gI_get a1 a2), rfl⟩, ?_⟩
  refine List.mem_map.mpr ⟨(q.2 - 1).toNat, List.mem_range.mpr ?_, ?_⟩
  · show (q.2 - 1).toNat < (gI c.eds q.1).toNat
    omega
  · show x ((q.1.toNat : Int), ((q.2 - 1).toNat : Int) + 1) = x q
    rw [show ((q.1.toNat : Nat) : Int) = q.1 by omega, show ((q.2 - 1).toNat : Int) + 1 = q.2 by omega]
theorem plan_rev (fit : c.Fit) {K : Int} {x z : Ex2 → Int} (h : ∀ q ∈ everyEx c.eds, z q = rv c K x q) : planX c.eds z = DL.dueW K (planX c.eds x) := by
  unfold planX DL.dueW
  rw [List.map_map]
  refine List.map_congr_left fun q hq => ?_
  have hi := List.mem_zipIdx_iff_getElem?.mp hq
  have hi : c.eds[q.2]? = some q.1 := hi
  obtain ⟨hl, _⟩ := List.getElem?_eq_some_iff.mp hi
  have hg := gI_at hi
  have h4 := fit.ok.eds.num q.1 (List.mem_of_getElem? hi)
  show (List.range q.1.toNat).map (fun (i : Nat) => z ((q.2 : Int), (i : Int) + 1)) = (((List.range q.1.toNat).map fun (i : Nat) => x ((q.2 : Int), (i : Int) + 1)).reverse.map fun v => K - v)
  refine List.ext_getElem (by simp) fun i h1 h2 => ?_
  rw [List.length_map, List.length_range] at h1
  rw [List.getElem_map, List.getElem_map, List.getElem_reverse, List.getElem_map, List.getElem_range, List.getElem_range]
  have m : ((q.2 : Int), (i : Int) + 1) ∈ everyEx c.eds := mem_everyEx.mpr ⟨by show 0 ≤ (q.2 : Int); omega, by show (q.2 : Int) < c.eds.length; omega, by show 1 ≤ (i : Int) + 1; omega, by show (i : Int) + 1 ≤ gI c.eds (q.2 : Int); omega⟩
  rw [h _ m]
  show K - x ((q.2 : Int), gI c.eds (q.2 : Int) - ((i : Int) + 1) + 1) = _
  rw [hg]
  congr 3
  rw [List.length_map, List.length_range]
  omega
theorem some_law (c : Clk) (x : Ex2 → Int) (k : Int) (fit : c.Fit) (h : DL.leastPost (bw c) (some x)) (k0 : 0 ≤ k) (k1 : k < 2) : 0 ≤ DL.mostK c (planX c.eds x) k ∧ ∀ r, DL.mostPost c (DL.mostK c (planX c.eds x) k) r → DL.plD c r = DL.wD (DL.dueW (DL.mostK c (planX c.eds x) k) (planX c.eds x)) := by
  have fb : (bw c).Fit := mirFit _ (bwFit c fit)
  have hp := fit.ok.p1
  obtain ⟨U, C⟩ := h
  obtain ⟨lo, S⟩ := (cl_clS fb).mp C
  have lo : ∀ q ∈ everyEx c.eds, 0 ≤ x q := lo
  have hm0 : 0 ≤ maxI (0 :: (planX c.eds x).flatten) := le_maxI List.mem_cons_self
  have hmx : ∀ q ∈ everyEx c.eds, x q ≤ maxI (0 :: (planX c.eds x).flatten) := fun q hq => le_maxI (List.mem_cons_of_mem _ (planX_mem hq))
  have hK : maxI (0 :: (planX c.eds x).flatten) ≤ DL.mostK c (planX c.eds x) k := by
    unfold DL.mostK
    generalize maxI (0 :: (planX c.eds x).flatten) = M
    rw [Int.mul_add]
    have a := Int.mul_ediv_add_emod (M + c.p - 1) c.p
    have b := Int.emod_lt_of_pos (M + c.p - 1) (by omega : 0 < c.p)
    have d : 0 ≤ c.p * k := Int.mul_nonneg (by omega) k0
    omega
  have eK : DL.mostK c (planX c.eds x) k = c.p * ((maxI (0 :: (planX c.eds x).flatten) + c.p - 1) / c.p + k) := rfl
  generalize DL.mostK c (planX c.eds x) k = K at hK eK ⊢
  have R := rv_back fit eK S
  have Cx : Cu c (everyEx c.eds) (everyLean c) K (rv c K x) := (cu_clS fit).mpr ⟨fun q hq => by
    have := lo _ (rv_in hq)
    show K - x (q.1, gI c.eds q.1 - q.2 + 1) ≤ K
    omega, R⟩
  refine ⟨by omega, fun r hr => ?_⟩
  cases r with
  | none =>
    obtain ⟨a, ha, hh⟩ := hr
    have h1 := hh _ Cx
    have h2 := hmx _ (rv_in ha)
    have h1 : K - x (a.1, gI c.eds a.1 - a.2 + 1) < 0 := h1
    omega
  | some z =>
    obtain ⟨Dn, Cz⟩ := hr
    obtain ⟨hi, Sz⟩ := (cu_clS fit).mp Cz
    have Rz := rv_on fit eK Sz
    have C' : Cl (bw c) (everyEx (bw c).eds) (leansIn (bw c) (everyEx (bw c).eds)) 0 (rv c K z) := (cl_clS fb).mpr ⟨fun q hq => by
      have := hi _ (rv_in (c := c) hq)
      show 0 ≤ K - z (q.1, gI c.eds q.1 - q.2 + 1)
      omega, Rz⟩
    have e : ∀ q ∈ everyEx c.eds, z q = rv c K x q := fun q hq => by
      have h1 := Dn.top _ Cx q hq
      have h2 : x (q.1, gI c.eds q.1 - q.2 + 1) ≤ K - z (q.1, gI c.eds q.1 - (gI c.eds q.1 - q.2 + 1) + 1) := U.low _ C' _ (rv_in (c := c) hq)
      rw [show gI c.eds q.1 - (gI c.eds q.1 - q.2 + 1) + 1 = q.2 by omega] at h2
      have h1 : K - x (q.1, gI c.eds q.1 - q.2 + 1) ≤ z q := h1
      have h2 : x (q.1, gI c.eds q.1 - q.2 + 1) ≤ K - z q := h2
      show z q = K - x (q.1, gI c.eds q.1 - q.2 + 1)
      omega
    show PySem.PyData.tuple _ = PySem.PyData.tuple _
    rw [plan_rev fit e]
end
end MA
namespace DL
open MA
theorem lawMath : LawMath where
  on := on_law
  back := back_law
  same := same_law
  mirFit := MA.mirFit
  mir3 := MA.mir3
  need := need_law
  bwFit := MA.bwFit
  none_ := none_law
  some_ := some_law
end DL
end
theorem PySem.Challenge.cw_livingclock_k67_whole_backs_holds : PySem.Challenge.rw_livingclock_k67_whole_backs.Holds :=
  law_holds DL.lawMath
