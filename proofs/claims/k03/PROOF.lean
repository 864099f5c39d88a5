import PyProof.Rows.All
import Wide.All
import OpenK.AllK
import Wide.FinOn
import HandS.ForMost
import HandS.Exc
import HandS.TryOnly
import HandS.ExcOwn
import HandS.WordsExc
import HandS.Wide
import HandS.TupAny
import HandS.TupMul
import HandS.Deep
import HandS.Style
import HandS.SortInts
import HandS.Defaults
import HandS.HeadHook2
import KE.LtData
import HandS.Conv
import HandS.More
import HandS.SetFor
import HandS.IsInst
import HandS.Strs
import KE.DataCmp
import KE.DataMinMax
import KE.SortData
import HandS.Head0
import HandS.Head1
import HandS.Head2
import HandS.HeadEnd
import Lean
import PySem.Challenge.RW_drainhouse_k03_whole_even_and_few_moved
set_option Elab.async false
set_option linter.all false
set_option maxRecDepth 100000
section
/-! The words of the program and of the laws, by numbers. -/
namespace D
open PySem
inductive Nm where
  | s_empty
  | s_nl
  | s_blank
  | s_dash
  | s_0
  | n_x
  | s__2d0
  | s__2d1
  | s_00
  | s_19
  | s_20
  | n_GO
  | n_by
  | n_do
  | n_go
  | s_7_208
  | n_ask
  | n_due
  | n_law
  | n_Busy
  | n_COME
  | n_HOLD
  | n_RING
  | n_Slot
  | n_TURN
  | n_book
  | n_come
  | n_ever
  | n_gone
  | n_have
  | n_hear
  | n_held
  | n_kept
  | n_last
  | n_lets
  | n_lose
  | n_make
  | n_many
  | n_name
  | n_read
  | n_road
  | n_rows
  | n_send
  | n_slot
  | n_told
  | n_took
  | n_turn
  | n_ASKER
  | n_Asker
  | n_BOARD
  | n_Board
  | n_HOUSE
  | n_House
  | n_Judge
  | n_Known
  | n_MINUS
  | n_SLOTS
  | n_World
  | n_wall
  | n_asked
  | n_asker
  | n_board
  | n_carry
  | n_deeds
  | n_every
  | n_first
  | n_fresh
  | n_given
  | n_go_on
  | n_heard
  | n_homes
  | n_house
  | n_judge
  | n_keeps
  | n_known
  | n_lacks
  | n_place
  | n_slots
  | n_taken
  | n_there
  | n_twice
  | n_worth
  | n_BadAsk
  | n_SHAPES
  | n_actors
  | n_answer
  | n_askers
  | n_change
  | n_counts
  | n_houses
  | n_in_one
  | n_number
  | n_owners
  | n_packed
  | n_played
  | n_serves
  | n_settle
  | n_shared
  | n_worths
  | s_1000000
  | s_1000001
  | n_BadText
  | n_FIGURES
  | n_NoHouse
  | n_TooMany
  | n_law_is
  | n_law_on
  | n_answers
  | n_changes
  | n_deliver
  | n_edition
  | n_is_busy
  | n_is_gone
  | n_is_late
  | n_lasting
  | n_letters
  | n_next_of
  | n_numbers
  | n_planned
  | n_serving
  | n_settled
  | n_step_of
  | n_waiting
  | n_written
  | s_10000000
  | n_BadAsker
  | n_BadCount
  | n_BadHouse
  | n_FAREWELL
  | n_NoLetter
  | d_init
  | d_name
  | n_law_all
  | n_law_ask
  | n_law_due
  | n_law_own
  | n_law_rig
  | n_answered
  | n_editions
  | n_farewell
  | n_hear_ask
  | n_heard_of
  | n_is_still
  | n_whole_of
  | n_LastHouse
  | n_MOST_MORE
  | n_law_asks
  | n_law_bent
  | n_law_calm
  | n_law_done
  | n_law_even
  | n_law_hear
  | n_law_lets
  | n_law_send
  | n_law_sent
  | n_law_stay
  | n_law_step
  | n_law_take
  | n_law_told
  | n_concerned
  | n_elsewhere
  | n_hear_slot
  | n_is_number
  | n_most_kept
  | n_need_name
  | n_number_of
  | n_shared_by
  | n_slot_from
  | n_step_from
  | n_was_there
  | s_figs
  | n_BadEdition
  | n_DrainError
  | n_MOST_ASKER
  | n_MOST_HOUSE
  | n_law_alike
  | n_law_alone
  | n_law_asked
  | n_law_begun
  | n_law_class
  | n_law_deeds
  | n_law_drawn
  | n_law_event
  | n_law_first
  | n_law_heard
  | n_law_moved
  | n_law_owned
  | n_law_round
  | n_law_state
  | n_law_steps
  | n_law_still
  | n_is_edition
  | n_read_steps
  | n_MOST_HOUSES
  | n_MOST_ROUNDS
  | n_law_actors
  | n_law_boards
  | n_law_change
  | n_law_is_had
  | n_law_little
  | n_law_number
  | n_law_parted
  | n_law_shared
  | n_law_spoilt
  | n_law_stands
  | n_need_houses
  | n_need_letter
  | n_need_owners
  | n_MOST_FIGURES
  | n_law_at_once
  | n_law_changed
  | n_law_choices
  | n_law_edition
  | n_law_is_next
  | n_law_letters
  | n_law_settled
  | n_law_traffic
  | n_hear_edition
  | n_need_edition
  | n_law_left_out
  | n_written_steps
  | n_law_bad_houses
  | n_law_house_right
  | n_law_slots_right
  | n_law_turned_calm
  | n_law_askers_right
  | n_law_answers_right
  | s_0123456789_20_2d_0aascturnbdefghijklmopqvwxyz_21_23_24_26_27_28_29_2a_2b_2c_2e_2f_3a_3b_3c_3d_3e_3f_40ABCDEFGHIJKLMNOPQRSTUVWXYZ_5b_5d_5e_5f_60_7b_7c_7d_7e
  deriving DecidableEq, Inhabited
def Nm.str : Nm → Str
  | .s_empty => ""
  | .s_nl => "\n"
  | .s_blank => " "
  | .s_dash => "-"
  | .s_0 => "0"
  | .n_x => "x"
  | .s__2d0 => "-0"
  | .s__2d1 => "-1"
  | .s_00 => "00"
  | .s_19 => "19"
  | .s_20 => "20"
  | .n_GO => "GO"
  | .n_by => "by"
  | .n_do => "do"
  | .n_go => "go"
  | .s_7_208 => "7 8"
  | .n_ask => "ask"
  | .n_due => "due"
  | .n_law => "law"
  | .n_Busy => "Busy"
  | .n_COME => "COME"
  | .n_HOLD => "HOLD"
  | .n_RING => "RING"
  | .n_Slot => "Slot"
  | .n_TURN => "TURN"
  | .n_book => "book"
  | .n_come => "come"
  | .n_ever => "ever"
  | .n_gone => "gone"
  | .n_have => "have"
  | .n_hear => "hear"
  | .n_held => "held"
  | .n_kept => "kept"
  | .n_last => "last"
  | .n_lets => "lets"
  | .n_lose => "lose"
  | .n_make => "make"
  | .n_many => "many"
  | .n_name => "name"
  | .n_read => "read"
  | .n_road => "road"
  | .n_rows => "rows"
  | .n_send => "send"
  | .n_slot => "slot"
  | .n_told => "told"
  | .n_took => "took"
  | .n_turn => "turn"
  | .n_ASKER => "ASKER"
  | .n_Asker => "Asker"
  | .n_BOARD => "BOARD"
  | .n_Board => "Board"
  | .n_HOUSE => "HOUSE"
  | .n_House => "House"
  | .n_Judge => "Judge"
  | .n_Known => "Known"
  | .n_MINUS => "MINUS"
  | .n_SLOTS => "SLOTS"
  | .n_World => "World"
  | .n_wall => "_wall"
  | .n_asked => "asked"
  | .n_asker => "asker"
  | .n_board => "board"
  | .n_carry => "carry"
  | .n_deeds => "deeds"
  | .n_every => "every"
  | .n_first => "first"
  | .n_fresh => "fresh"
  | .n_given => "given"
  | .n_go_on => "go_on"
  | .n_heard => "heard"
  | .n_homes => "homes"
  | .n_house => "house"
  | .n_judge => "judge"
  | .n_keeps => "keeps"
  | .n_known => "known"
  | .n_lacks => "lacks"
  | .n_place => "place"
  | .n_slots => "slots"
  | .n_taken => "taken"
  | .n_there => "there"
  | .n_twice => "twice"
  | .n_worth => "worth"
  | .n_BadAsk => "BadAsk"
  | .n_SHAPES => "SHAPES"
  | .n_actors => "actors"
  | .n_answer => "answer"
  | .n_askers => "askers"
  | .n_change => "change"
  | .n_counts => "counts"
  | .n_houses => "houses"
  | .n_in_one => "in_one"
  | .n_number => "number"
  | .n_owners => "owners"
  | .n_packed => "packed"
  | .n_played => "played"
  | .n_serves => "serves"
  | .n_settle => "settle"
  | .n_shared => "shared"
  | .n_worths => "worths"
  | .s_1000000 => "1000000"
  | .s_1000001 => "1000001"
  | .n_BadText => "BadText"
  | .n_FIGURES => "FIGURES"
  | .n_NoHouse => "NoHouse"
  | .n_TooMany => "TooMany"
  | .n_law_is => "_law_is"
  | .n_law_on => "_law_on"
  | .n_answers => "answers"
  | .n_changes => "changes"
  | .n_deliver => "deliver"
  | .n_edition => "edition"
  | .n_is_busy => "is_busy"
  | .n_is_gone => "is_gone"
  | .n_is_late => "is_late"
  | .n_lasting => "lasting"
  | .n_letters => "letters"
  | .n_next_of => "next_of"
  | .n_numbers => "numbers"
  | .n_planned => "planned"
  | .n_serving => "serving"
  | .n_settled => "settled"
  | .n_step_of => "step_of"
  | .n_waiting => "waiting"
  | .n_written => "written"
  | .s_10000000 => "10000000"
  | .n_BadAsker => "BadAsker"
  | .n_BadCount => "BadCount"
  | .n_BadHouse => "BadHouse"
  | .n_FAREWELL => "FAREWELL"
  | .n_NoLetter => "NoLetter"
  | .d_init => "__init__"
  | .d_name => "__name__"
  | .n_law_all => "_law_all"
  | .n_law_ask => "_law_ask"
  | .n_law_due => "_law_due"
  | .n_law_own => "_law_own"
  | .n_law_rig => "_law_rig"
  | .n_answered => "answered"
  | .n_editions => "editions"
  | .n_farewell => "farewell"
  | .n_hear_ask => "hear_ask"
  | .n_heard_of => "heard_of"
  | .n_is_still => "is_still"
  | .n_whole_of => "whole_of"
  | .n_LastHouse => "LastHouse"
  | .n_MOST_MORE => "MOST_MORE"
  | .n_law_asks => "_law_asks"
  | .n_law_bent => "_law_bent"
  | .n_law_calm => "_law_calm"
  | .n_law_done => "_law_done"
  | .n_law_even => "_law_even"
  | .n_law_hear => "_law_hear"
  | .n_law_lets => "_law_lets"
  | .n_law_send => "_law_send"
  | .n_law_sent => "_law_sent"
  | .n_law_stay => "_law_stay"
  | .n_law_step => "_law_step"
  | .n_law_take => "_law_take"
  | .n_law_told => "_law_told"
  | .n_concerned => "concerned"
  | .n_elsewhere => "elsewhere"
  | .n_hear_slot => "hear_slot"
  | .n_is_number => "is_number"
  | .n_most_kept => "most_kept"
  | .n_need_name => "need_name"
  | .n_number_of => "number_of"
  | .n_shared_by => "shared_by"
  | .n_slot_from => "slot_from"
  | .n_step_from => "step_from"
  | .n_was_there => "was_there"
  | .s_figs => "0123456789"
  | .n_BadEdition => "BadEdition"
  | .n_DrainError => "DrainError"
  | .n_MOST_ASKER => "MOST_ASKER"
  | .n_MOST_HOUSE => "MOST_HOUSE"
  | .n_law_alike => "_law_alike"
  | .n_law_alone => "_law_alone"
  | .n_law_asked => "_law_asked"
  | .n_law_begun => "_law_begun"
  | .n_law_class => "_law_class"
  | .n_law_deeds => "_law_deeds"
  | .n_law_drawn => "_law_drawn"
  | .n_law_event => "_law_event"
  | .n_law_first => "_law_first"
  | .n_law_heard => "_law_heard"
  | .n_law_moved => "_law_moved"
  | .n_law_owned => "_law_owned"
  | .n_law_round => "_law_round"
  | .n_law_state => "_law_state"
  | .n_law_steps => "_law_steps"
  | .n_law_still => "_law_still"
  | .n_is_edition => "is_edition"
  | .n_read_steps => "read_steps"
  | .n_MOST_HOUSES => "MOST_HOUSES"
  | .n_MOST_ROUNDS => "MOST_ROUNDS"
  | .n_law_actors => "_law_actors"
  | .n_law_boards => "_law_boards"
  | .n_law_change => "_law_change"
  | .n_law_is_had => "_law_is_had"
  | .n_law_little => "_law_little"
  | .n_law_number => "_law_number"
  | .n_law_parted => "_law_parted"
  | .n_law_shared => "_law_shared"
  | .n_law_spoilt => "_law_spoilt"
  | .n_law_stands => "_law_stands"
  | .n_need_houses => "need_houses"
  | .n_need_letter => "need_letter"
  | .n_need_owners => "need_owners"
  | .n_MOST_FIGURES => "MOST_FIGURES"
  | .n_law_at_once => "_law_at_once"
  | .n_law_changed => "_law_changed"
  | .n_law_choices => "_law_choices"
  | .n_law_edition => "_law_edition"
  | .n_law_is_next => "_law_is_next"
  | .n_law_letters => "_law_letters"
  | .n_law_settled => "_law_settled"
  | .n_law_traffic => "_law_traffic"
  | .n_hear_edition => "hear_edition"
  | .n_need_edition => "need_edition"
  | .n_law_left_out => "_law_left_out"
  | .n_written_steps => "written_steps"
  | .n_law_bad_houses => "_law_bad_houses"
  | .n_law_house_right => "_law_house_right"
  | .n_law_slots_right => "_law_slots_right"
  | .n_law_turned_calm => "_law_turned_calm"
  | .n_law_askers_right => "_law_askers_right"
  | .n_law_answers_right => "_law_answers_right"
  | .s_0123456789_20_2d_0aascturnbdefghijklmopqvwxyz_21_23_24_26_27_28_29_2a_2b_2c_2e_2f_3a_3b_3c_3d_3e_3f_40ABCDEFGHIJKLMNOPQRSTUVWXYZ_5b_5d_5e_5f_60_7b_7c_7d_7e => "0123456789 -\nascturnbdefghijklmopqvwxyz!#$&'()*+,./:;<=>?@ABCDEFGHIJKLMNOPQRSTUVWXYZ[]^_`{|}~"
def allNm0 : List Nm := [.s_empty, .s_nl, .s_blank, .s_dash, .s_0, .n_x, .s__2d0, .s__2d1, .s_00, .s_19, .s_20, .n_GO, .n_by, .n_do, .n_go, .s_7_208, .n_ask, .n_due, .n_law, .n_Busy, .n_COME, .n_HOLD, .n_RING, .n_Slot, .n_TURN, .n_book, .n_come, .n_ever, .n_gone, .n_have]
def allNm1 : List Nm := [.n_hear, .n_held, .n_kept, .n_last, .n_lets, .n_lose, .n_make, .n_many, .n_name, .n_read, .n_road, .n_rows, .n_send, .n_slot, .n_told, .n_took, .n_turn, .n_ASKER, .n_Asker, .n_BOARD, .n_Board, .n_HOUSE, .n_House, .n_Judge, .n_Known, .n_MINUS, .n_SLOTS, .n_World, .n_wall, .n_asked]
def allNm2 : List Nm := [.n_asker, .n_board, .n_carry, .n_deeds, .n_every, .n_first, .n_fresh, .n_given, .n_go_on, .n_heard, .n_homes, .n_house, .n_judge, .n_keeps, .n_known, .n_lacks, .n_place, .n_slots, .n_taken, .n_there, .n_twice, .n_worth, .n_BadAsk, .n_SHAPES, .n_actors, .n_answer, .n_askers, .n_change, .n_counts, .n_houses]
def allNm3 : List Nm := [.n_in_one, .n_number, .n_owners, .n_packed, .n_played, .n_serves, .n_settle, .n_shared, .n_worths, .s_1000000, .s_1000001, .n_BadText, .n_FIGURES, .n_NoHouse, .n_TooMany, .n_law_is, .n_law_on, .n_answers, .n_changes, .n_deliver, .n_edition, .n_is_busy, .n_is_gone, .n_is_late, .n_lasting, .n_letters, .n_next_of, .n_numbers, .n_planned, .n_serving]
def allNm4 : List Nm := [.n_settled, .n_step_of, .n_waiting, .n_written, .s_10000000, .n_BadAsker, .n_BadCount, .n_BadHouse, .n_FAREWELL, .n_NoLetter, .d_init, .d_name, .n_law_all, .n_law_ask, .n_law_due, .n_law_own, .n_law_rig, .n_answered, .n_editions, .n_farewell, .n_hear_ask, .n_heard_of, .n_is_still, .n_whole_of, .n_LastHouse, .n_MOST_MORE, .n_law_asks, .n_law_bent, .n_law_calm, .n_law_done]
def allNm5 : List Nm := [.n_law_even, .n_law_hear, .n_law_lets, .n_law_send, .n_law_sent, .n_law_stay, .n_law_step, .n_law_take, .n_law_told, .n_concerned, .n_elsewhere, .n_hear_slot, .n_is_number, .n_most_kept, .n_need_name, .n_number_of, .n_shared_by, .n_slot_from, .n_step_from, .n_was_there, .s_figs, .n_BadEdition, .n_DrainError, .n_MOST_ASKER, .n_MOST_HOUSE, .n_law_alike, .n_law_alone, .n_law_asked, .n_law_begun, .n_law_class]
def allNm6 : List Nm := [.n_law_deeds, .n_law_drawn, .n_law_event, .n_law_first, .n_law_heard, .n_law_moved, .n_law_owned, .n_law_round, .n_law_state, .n_law_steps, .n_law_still, .n_is_edition, .n_read_steps, .n_MOST_HOUSES, .n_MOST_ROUNDS, .n_law_actors, .n_law_boards, .n_law_change, .n_law_is_had, .n_law_little, .n_law_number, .n_law_parted, .n_law_shared, .n_law_spoilt, .n_law_stands, .n_need_houses, .n_need_letter, .n_need_owners, .n_MOST_FIGURES, .n_law_at_once]
def allNm7 : List Nm := [.n_law_changed, .n_law_choices, .n_law_edition, .n_law_is_next, .n_law_letters, .n_law_settled, .n_law_traffic, .n_hear_edition, .n_need_edition, .n_law_left_out, .n_written_steps, .n_law_bad_houses, .n_law_house_right, .n_law_slots_right, .n_law_turned_calm, .n_law_askers_right, .n_law_answers_right, .s_0123456789_20_2d_0aascturnbdefghijklmopqvwxyz_21_23_24_26_27_28_29_2a_2b_2c_2e_2f_3a_3b_3c_3d_3e_3f_40ABCDEFGHIJKLMNOPQRSTUVWXYZ_5b_5d_5e_5f_60_7b_7c_7d_7e]
def allNm : List Nm := allNm0 ++ allNm1 ++ allNm2 ++ allNm3 ++ allNm4 ++ allNm5 ++ allNm6 ++ allNm7
theorem mem_allNm (a : Nm) : a ∈ allNm := by
  cases a <;> decide +kernel
def hashS (x : Str) : Nat := x.cps.toList.foldl (fun a c => a * 1000003 + c + 1) 1
def adj (h : Nm → Nat) : Nat → List Nm → Bool
  | _, [] => true
  | p, a :: r => Nat.blt p (h a) && adj h (h a) r
theorem adj_lt {h : Nm → Nat} : ∀ {l : List Nm} {p : Nat}, adj h p l = true → ∀ a ∈ l, p < h a := by
  intro l
  induction l with
  | nil => intro p _ a m; cases m
  | cons b r ih =>
    intro p e a m
    simp only [adj, Bool.and_eq_true, Nat.blt_eq] at e
    rcases List.mem_cons.mp m with q | m
    · rw [q]; exact e.1
    · exact Nat.lt_trans e.1 (ih e.2 a m)
theorem adj_inj {h : Nm → Nat} : ∀ {l : List Nm} {p : Nat}, adj h p l = true → ∀ a ∈ l, ∀ b ∈ l, h a = h b → a = b := by
  intro l
  induction l with
  | nil => intro p _ a m; cases m
  | cons c r ih =>
    intro p e a ma b mb q
    simp only [adj, Bool.and_eq_true, Nat.blt_eq] at e
    rcases List.mem_cons.mp ma with ea | ma
    · rcases List.mem_cons.mp mb with eb | mb
      · rw [ea, eb]
      · have z := adj_lt e.2 b mb
        rw [← q, ea] at z
        exact absurd z (Nat.lt_irrefl _)
    · rcases List.mem_cons.mp mb with eb | mb
      · have z := adj_lt e.2 a ma
        rw [q, eb] at z
        exact absurd z (Nat.lt_irrefl _)
      · exact ih e.2 a ma b mb q
theorem adj_all : adj (fun a => hashS a.str) 0 allNm = true := by decide +kernel
theorem Nm.inj {a b : Nm} (h : a.str = b.str) : a = b := adj_inj adj_all a (mem_allNm a) b (mem_allNm b) (congrArg hashS h)
theorem Nm.str_eq {a b : Nm} : (a.str = b.str) = (a = b) := propext ⟨Nm.inj, fun h => by rw [h]⟩
end D
end

section
/-! A small language of one's own, its runs over a store of numbered objects; texts of the program are checked against it. -/
namespace D
open PySem L2

inductive W where
  | non | bl (b : Bool) | int (i : Int) | str (x : Str) | tup (xs : List W) | ref (n : Nat)
  deriving Inhabited

inductive Nd where
  | lst (xs : List W)
  | frz (xs : List W)
  | dct (k : Bool) (kvs : List (Key × W))
  | ins (c : Nm) (fs : List (Nm × W))

structure Sto where
  next : Nat
  get : Nat → Option Nd

def Sto.put (S : Sto) (n : Nat) (d : Nd) : Sto := ⟨S.next, fun m => if m = n then some d else S.get m⟩
def Sto.new (S : Sto) (d : Nd) : Sto := ⟨S.next + 1, fun m => if m = S.next then some d else S.get m⟩

structure Exc where
  cls : Nm
  arg : Option W

inductive R (α : Type) where
  | ok (a : α) (S : Sto)
  | ex (x : Exc) (S : Sto)
  | no

def R.bind {α β : Type} (r : R α) (f : α → Sto → R β) : R β := match r with
  | .ok a S => f a S
  | .ex x S => .ex x S
  | .no => .no

abbrev Env := List (Option W)
/-- what is called: a module's def, a class's method -/
inductive Fk where
  | fn (f : Nm) | me (c m : Nm)
  deriving DecidableEq
abbrev Call := Fk → List W → Sto → R W

inductive Bo where
  | add | sub | mul | div | mod | pow
  deriving DecidableEq
inductive Co where
  | eq | ne | lt | le | gt | ge | inn | nin | is | isn
  deriving DecidableEq
inductive Bi where
  | len | list | tuple | dict | sorted | sortset | sum | sum0 | min1 | min2 | max1 | max2 | int | str | lrng1 | lrng2
  deriving DecidableEq
inductive Bm where
  | append | extend | pop | insert | remove | clear | count | index | get | update | split | join
  deriving DecidableEq
inductive Ty where
  | int | bool | str | tuple | list
  deriving DecidableEq

inductive E where
  | var (i : Nat)
  | int (i : Int) | bl (b : Bool) | non | str (n : Nm)
  | gi (n : Nm) (i : Int) | gs (n s : Nm)
  | bin (o : Bo) (a b : E) | neg (a : E)
  | nt (a : E) | and (a b : E) | or (a b : E)
  | cmp (o : Co) (a b : E) | chain (o p : Co) (a b c : E)
  | ife (c a b : E)
  | call (f : Nm) (as : E) | new (c : Nm) (as : E) | meth (o : E) (m : Nm) (as : E)
  | bi (f : Bi) (as : E) | bm (m : Bm) (o : E) (as : E)
  | attr (o : E) (f : Nm)
  | ix (a i : E) | sl (a lo hi : E) | rev (a : E)
  | tup (es : E) | lst (es : E) | dct (kvs : E)
  | lc (xs : List Nat) (one : Bool) (it elt cnd : E)
  | isi (a : E) (t : Ty)
  | rng1 (a : E) | rng2 (a b : E) | enm (a : E)
  | nil | cons (a r : E) | kv (k v r : E) | no

inductive S where
  | nil | cons (s r : S)
  | pass | ex (e : E)
  | set (x : Nat) (e : E) | setA (o : E) (f : Nm) (e : E) | setI (o i e : E)
  | setT (xs : List Nat) (e : E) | par (xs : List Nat) (es : E)
  | ite (c : E) (a b : S)
  | for_ (xs : List Nat) (one : Bool) (it : E) (body : S)
  | forE (i x : Nat) (a : E) (body : S)
  | whl (c : E) (body : S)
  | ret (e : E) | retN
  | rse (c : Nm) | rseA (c : Nm) (e : E)
  | tri (body : S) (cs : List Nm) (c : Nm) (as : Option Nat) (suite : S)

/-! ### values -/
def W.sc : W → Bool
  | .non => true
  | .bl _ => true
  | .int _ => true
  | .str _ => true
  | _ => false
/-- a plain value as the layer has it -/
def W.v : W → V
  | .non => .non
  | .bl b => .bl b
  | .int i => .int i
  | .str x => .str x
  | _ => .non
def W.key : W → Option Key
  | .int i => some (.inl i)
  | .str x => some (.inr x)
  | _ => none
def keyW : Key → W
  | .inl i => .int i
  | .inr x => .str x
/-- a dict's entry -/
def valW : List (Key × W) → Key → Option W
  | [], _ => none
  | p :: r, k => if p.1 = k then some p.2 else valW r k
def putW (kvs : List (Key × W)) (k : Key) (v : W) : List (Key × W) :=
  if (kvs.any fun kv => decide (kv.1 = k)) = true then kvs.map (fun kv => if kv.1 = k then (kv.1, v) else kv) else kvs ++ [(k, v)]
def dropW : List (Key × W) → Key → List (Key × W)
  | [], _ => []
  | p :: r, k => if p.1 = k then dropW r k else p :: dropW r k
/-- an instance's field -/
def fld : List (Nm × W) → Nm → Option W
  | [], _ => none
  | p :: r, f => if p.1 = f then some p.2 else fld r f
def putf : List (Nm × W) → Nm → W → List (Nm × W)
  | [], f, v => [(f, v)]
  | p :: r, f, v => if p.1 = f then (f, v) :: r else p :: putf r f v

mutual
/-- a value as data, of a depth that is known -/
def dat (S : Sto) : Nat → W → Option PyData
  | _, .non => some .none
  | _, .bl b => some (.bool b)
  | _, .int i => some (.int i)
  | _, .str x => some (.str x)
  | k, .tup xs => (dats S k xs).map .tuple
  | 0, .ref _ => none
  | k + 1, .ref n => match S.get n with
    | some (.lst xs) => (dats S k xs).map .list
    | some (.frz xs) => (dats S k xs).map .list
    | _ => none
termination_by k w => (k, sizeOf w)
def dats (S : Sto) : Nat → List W → Option (List PyData)
  | _, [] => some []
  | k, x :: xs => match dat S k x, dats S k xs with
    | some d, some ds => some (d :: ds)
    | _, _ => none
termination_by k ws => (k, sizeOf ws)
end

def ok {α : Type} (a : α) : Sto → R α := fun S => .ok a S
/-- a new object -/
def mk (d : Nd) (S : Sto) : R W := .ok (.ref S.next) (S.new d)
def lim : Nat := 16000000

/-! ### operators -/
def eqW (S : Sto) (a b : W) : Option Bool :=
  if a.sc && b.sc && scal a.v b.v then some (decide (a.v = b.v))
  else match dat S 6 a, dat S 6 b with
    | some d, some e => if SeqAt.shaped d && SeqAt.shaped e then some (PyData.eqv d e) else none
    | _, _ => none
def allSc (xs : List W) : Bool := xs.all W.sc
def inW (S : Sto) (x c : W) : Option Bool := match c with
  | .tup ys => if x.sc && allSc ys then some (inV x.v (ys.map W.v)) else none
  | .str z => match x with
    | .str c => if c.length = 1 then (match c.cps[0]? with
      | some s => some (decide (s ∈ z.cps.toList))
      | none => none) else none
    | _ => none
  | .ref n => match S.get n with
    | some (.lst ys) => if x.sc && allSc ys then some (inV x.v (ys.map W.v)) else
      (match dat S 6 x, dats S 6 ys with
      | some d, some ds => if SeqAt.shaped d && SeqAt.shaped (.list ds) then some (ds.any fun z => PyData.eqv z d) else none
      | _, _ => none)
    | some (.dct _ kvs) => (match x.key with
      | some k => some (valW kvs k).isSome
      | none => none)
    | _ => none
  | _ => none
def boolR (o : Option Bool) (S : Sto) : R W := match o with
  | some b => .ok (.bl b) S
  | none => .no
def isN : W → Bool
  | .non => true
  | _ => false
def intsOf : List W → Option (List Int)
  | [] => some []
  | .int i :: r => (intsOf r).map (i :: ·)
  | _ :: _ => none
/-- tuples in turn -/
def ltD (S : Sto) (a b : W) : Option Bool := match dat S 0 a, dat S 0 b with
  | some (.tuple ds), some (.tuple es) => if PySem.W.alike (.tuple ds) (.tuple es) && decide (PyData.depth (.tuple ds) ≤ 9) then some (PySem.W.dataLt (.tuple ds) (.tuple es)) else none
  | _, _ => none
def ltL : List Int → List Int → Bool
  | [], [] => false
  | [], _ :: _ => true
  | _ :: _, [] => false
  | x :: xs, y :: ys => decide (x < y) || (decide (x = y) && ltL xs ys)
/-- the least of some, as tuples ascend -/
def leastL : List (List Int) → Option (List Int)
  | [] => none
  | x :: r => some (r.foldl (fun a y => if ltL y a then y else a) x)
def tupsOf : List W → Option (List (List Int))
  | [] => some []
  | .tup xs :: r => (match intsOf xs, tupsOf r with
    | some ns, some l => some (ns :: l)
    | _, _ => none)
  | _ :: _ => none
def cmpW (o : Co) (a b : W) (S : Sto) : R W := match o with
  | .eq => boolR (eqW S a b) S
  | .ne => boolR ((eqW S a b).map (!·)) S
  | .inn => boolR (inW S a b) S
  | .nin => boolR ((inW S a b).map (!·)) S
  | .is => if isN b then .ok (.bl (isN a)) S else .no
  | .isn => if isN b then .ok (.bl (!isN a)) S else .no
  | .lt => match a, b with
    | .int i, .int j => .ok (.bl (decide (i < j))) S
    | .tup xs, .tup ys => boolR (ltD S (.tup xs) (.tup ys)) S
    | _, _ => .no
  | .le => match a, b with
    | .int i, .int j => .ok (.bl (decide (i ≤ j))) S
    | _, _ => .no
  | .gt => match a, b with
    | .int i, .int j => .ok (.bl (decide (j < i))) S
    | _, _ => .no
  | .ge => match a, b with
    | .int i, .int j => .ok (.bl (decide (j ≤ i))) S
    | _, _ => .no
def binW (o : Bo) (a b : W) (S : Sto) : R W := match o, a, b with
  | .add, .int i, .int j => .ok (.int (i + j)) S
  | .add, .str x, .str y => if x.length + y.length ≤ lim then .ok (.str (x ++ y)) S else .no
  | .add, .tup xs, .tup ys => if xs.length + ys.length ≤ lim then .ok (.tup (xs ++ ys)) S else .no
  | .add, .ref n, .ref m => (match S.get n, S.get m with
    | some (.lst xs), some (.lst ys) => if xs.length + ys.length ≤ lim then mk (.lst (xs ++ ys)) S else .no
    | _, _ => .no)
  | .sub, .int i, .int j => .ok (.int (i - j)) S
  | .mul, .int i, .int j => if (-(2 ^ 64) < i ∧ i < 2 ^ 64) ∨ (-(2 ^ 64) < j ∧ j < 2 ^ 64) then .ok (.int (i * j)) S else .no
  | .mul, .tup xs, .int k => if xs.length = 1 ∧ 2 ≤ k ∧ k ≤ 1000 then .ok (.tup (List.replicate k.toNat xs).flatten) S else .no
  | .mul, .ref n, .int k => (match S.get n with
    | some (.lst xs) => if -1000 ≤ k ∧ k ≤ 1000 ∧ xs.length ≤ 1000 then mk (.lst (List.replicate k.toNat xs).flatten) S else .no
    | _ => .no)
  | .div, .int i, .int j => if 0 < j ∧ j < 2 ^ 100 then .ok (.int (i / j)) S else .no
  | .mod, .int i, .int j => if 0 < j then .ok (.int (i % j)) S else .no
  | .pow, .int i, .int j => if 0 ≤ j ∧ j ≤ 1000 ∧ 0 ≤ i ∧ i ≤ 1000 then .ok (.int (i ^ j.toNat)) S else .no
  | _, _, _ => .no
/-- a place of n -/
def ixW (n : Nat) (i : Int) : Option Nat := ixN n i
def itemW (a i : W) (S : Sto) : R W := match a, i with
  | .tup xs, .int k => (match atI xs k with
    | some x => .ok x S
    | none => .no)
  | .str z, .int k => if z.length ≤ lim then (match atI z.cps.toList k with
    | some c => .ok (.str ⟨#[c]⟩) S
    | none => .no) else .no
  | .ref n, i => (match S.get n with
    | some (.lst xs) => (match i with
      | .int k => (match atI xs k with
        | some x => .ok x S
        | none => .no)
      | _ => .no)
    | some (.dct _ kvs) => (match i.key with
      | some k => (match valW kvs k with
        | some x => .ok x S
        | none => .no)
      | none => .no)
    | _ => .no)
  | _, _ => .no
def cutW (xs : List W) (lo hi : Option Int) : List W := (xs.drop (HT.sIx xs.length 0 lo)).take (HT.sIx xs.length xs.length hi - HT.sIx xs.length 0 lo)
/-- a part of a slice -/
def partO : W → Option Int
  | .int i => some i
  | _ => none
def intR (v : W) (S : Sto) : R W := match v with
  | .int i => .ok (.int i) S
  | _ => .no
def sliceW (a : W) (lo hi : Option Int) (S : Sto) : R W := match a with
  | .tup xs => .ok (.tup (cutW xs lo hi)) S
  | .str z => if z.length ≤ lim then .ok (.str (cutS z lo hi)) S else .no
  | .ref n => (match S.get n with
    | some (.lst xs) => mk (.lst (cutW xs lo hi)) S
    | _ => .no)
  | _ => .no
def revW (a : W) (S : Sto) : R W := match a with
  | .ref n => (match S.get n with
    | some (.lst xs) => mk (.lst xs.reverse) S
    | _ => .no)
  | _ => .no
def isiW (t : Ty) (a : W) (S : Sto) : Option Bool := match t, a with
  | .int, .int _ => some true
  | .int, .bl _ => some true
  | .bool, .bl _ => some true
  | .str, .str _ => some true
  | .tuple, .tup _ => some true
  | .list, .ref n => (match S.get n with
    | some (.lst _) => some true
    | some (.frz _) => some true
    | some (.dct _ _) => some false
    | _ => none)
  | _, .ref n => (match S.get n with
    | some (.lst _) => some false
    | some (.frz _) => some false
    | some (.dct _ _) => some false
    | _ => none)
  | _, _ => some false

/-! ### built-in functions and methods, by values -/
def seqOf (S : Sto) : W → Option (List W)
  | .tup xs => some xs
  | .ref n => (match S.get n with
    | some (.lst xs) => some xs
    | some (.frz xs) => some xs
    | _ => none)
  | _ => none
def lstOf (S : Sto) : W → Option (List W)
  | .ref n => (match S.get n with
    | some (.lst xs) => some xs
    | some (.frz xs) => some xs
    | _ => none)
  | _ => none
def insInt (i : Int) : List Int → List Int
  | [] => [i]
  | j :: r => if i ≤ j then i :: j :: r else j :: insInt i r
def sortInts (xs : List Int) : List Int := xs.foldr insInt []
def pairsOf : List W → Option (List (Key × W))
  | [] => some []
  | .tup [k, v] :: r => (match k.key, pairsOf r with
    | some k, some r => some ((k, v) :: r)
    | _, _ => none)
  | _ :: _ => none
def mergeW (kvs : List (Key × W)) (more : List (Key × W)) : List (Key × W) := more.foldl (fun acc kv => putW acc kv.1 kv.2) kvs
def least : List Int → Option Int
  | [] => none
  | i :: r => some (r.foldl min i)
def most : List Int → Option Int
  | [] => none
  | i :: r => some (r.foldl max i)
def rangeW (lo hi : Int) : List W := (List.range (hi - lo).toNat).map fun (k : Nat) => .int (lo + (k : Int))
def strsOf : List W → Option (List Str)
  | [] => some []
  | .str x :: r => (strsOf r).map (x :: ·)
  | _ :: _ => none
def keysOf (S : Sto) : W → Option (List Int)
  | .ref n => (match S.get n with
    | some (.lst xs) => intsOf xs
    | some (.dct false kvs) => if kvs.length < 64 then intsOf (kvs.map fun kv => keyW kv.1) else none
    | _ => none)
  | _ => none
def biW (f : Bi) (as : List W) (S : Sto) : R W := match f, as with
  | .len, [a] => (match a with
    | .tup xs => .ok (.int xs.length) S
    | .str z => if z.length ≤ lim then .ok (.int z.length) S else .no
    | .ref n => (match S.get n with
      | some (.lst xs) => .ok (.int xs.length) S
      | some (.frz xs) => .ok (.int xs.length) S
      | some (.dct false kvs) => .ok (.int kvs.length) S
      | _ => .no)
    | _ => .no)
  | .list, [a] => (match seqOf S a with
    | some xs => mk (.lst xs) S
    | none => .no)
  | .tuple, [a] => (match seqOf S a with
    | some xs => .ok (.tup xs) S
    | none => .no)
  | .dict, [.ref n] => (match S.get n with
    | some (.lst xs) => (match pairsOf xs with
      | some kvs => mk (.dct false (mergeW [] kvs)) S
      | none => .no)
    | some (.dct false kvs) => mk (.dct false kvs) S
    | _ => .no)
  | .sorted, [a] => (match keysOf S a with
    | some ns => mk (.lst ((sortInts ns).map .int)) S
    | none => .no)
  | .sortset, [a] => (match lstOf S a with
    | some xs => (match intsOf xs with
      | some ns => if ns.length ≤ 60 then mk (.lst ((sortInts ns).eraseDups.map .int)) S else .no
      | none => .no)
    | none => .no)
  | .sum, [a] => (match lstOf S a with
    | some xs => (match intsOf xs with
      | some ns => .ok (.int ns.sum) S
      | none => .no)
    | none => .no)
  | .min1, [a] => (match lstOf S a with
    | some xs => (match intsOf xs with
      | some ns => (match least ns with
        | some m => .ok (.int m) S
        | none => .no)
      | none => (match tupsOf xs with
        | some ts => (match leastL ts with
          | some m => .ok (.tup (m.map .int)) S
          | none => .no)
        | none => .no))
    | none => .no)
  | .max1, [a] => (match lstOf S a with
    | some xs => (match intsOf xs with
      | some ns => (match most ns with
        | some m => .ok (.int m) S
        | none => .no)
      | none => .no)
    | none => .no)
  | .min2, [.int i, .int j] => .ok (.int (if j < i then j else i)) S
  | .max2, [.int i, .int j] => .ok (.int (if j > i then j else i)) S
  | .int, [.int i] => .ok (.int i) S
  | .int, [.bl b] => .ok (.int (if b then 1 else 0)) S
  | .int, [.str z] => if z.length ≤ 640 then (match PySem.intText? z with
    | some n => .ok (.int n) S
    | none => .no) else .no
  | .str, [.int i] => if i.natAbs < 10 ^ 30 then .ok (.str (toString i)) S else .no
  | .lrng1, [.int n] => if -100000 ≤ n ∧ n ≤ 100000 then mk (.lst (rangeW 0 n)) S else .no
  | .lrng2, [.int a, .int b] => if -100000 ≤ a ∧ a ≤ 100000 ∧ -100000 ≤ b ∧ b ≤ 100000 then mk (.lst (rangeW a b)) S else .no
  | _, _ => .no
/-- the first place of one that is equal -/
def placeOf (x : V) : List V → Option Nat
  | [] => none
  | y :: r => if eqV y x then some 0 else (placeOf x r).map (· + 1)
def bmW (m : Bm) (o : W) (as : List W) (S : Sto) : R W := match o with
  | .str z => (match m, as with
    | .split, [.str y] => if z.length ≤ 100000 ∧ y.length ≠ 0 then mk (.lst ((Txt.split z y).map .str)) S else .no
    | .join, [a] => (match lstOf S a with
      | some xs => (match strsOf xs with
        | some ys => if (ys.map (·.length)).sum + z.length * ys.length ≤ 1000000 then .ok (.str (Txt.join z ys)) S else .no
        | none => .no)
      | none => .no)
    | _, _ => .no)
  | .tup xs => (match m, as with
    | .count, [.int k] => (match intsOf xs with
      | some ns => .ok (.int (ns.count k)) S
      | none => .no)
    | _, _ => .no)
  | .ref n => (match S.get n with
    | some (.lst xs) => (match m, as with
      | .append, [x] => if xs.length ≤ lim then .ok .non (S.put n (.lst (xs ++ [x]))) else .no
      | .extend, [.ref k] => (match S.get k with
        | some (.lst ys) => if xs.length + ys.length ≤ lim then .ok .non (S.put n (.lst (xs ++ ys))) else .no
        | _ => .no)
      | .pop, [.int i] => if -100000 ≤ i ∧ i ≤ 100000 then (match ixN xs.length i with
        | some j => (match xs[j]? with
          | some x => .ok x (S.put n (.lst (xs.eraseIdx j)))
          | none => .no)
        | none => .no) else .no
      | .insert, [.int i, x] => if i = 0 ∧ xs.length ≤ lim then .ok .non (S.put n (.lst (x :: xs))) else .no
      | .remove, [.int k] => (match intsOf xs with
        | some ns => if ns.contains k then .ok .non (S.put n (.lst ((ns.erase k).map .int))) else .no
        | none => .no)
      | .clear, [] => .ok .non (S.put n (.lst []))
      | .count, [.int k] => (match intsOf xs with
        | some ns => .ok (.int (ns.count k)) S
        | none => .no)
      | .index, [x] => if x.sc && allSc xs then (match placeOf x.v (xs.map W.v) with
        | some j => .ok (.int j) S
        | none => .no) else .no
      | _, _ => .no)
    | some (.dct l kvs) => (match m, as with
      | .get, [k, d] => (match k.key with
        | some k => .ok ((valW kvs k).getD d) S
        | none => .no)
      | .pop, [k] => if l then .no else (match k.key with
        | some k => (match valW kvs k with
          | some x => .ok x (S.put n (.dct false (dropW kvs k)))
          | none => .no)
        | none => .no)
      | .update, [.ref k] => if l then .no else if n = k then .no else (match S.get k with
        | some (.dct false more) => if kvs.length + more.length ≤ lim then .ok .non (S.put n (.dct false (mergeW kvs more))) else .no
        | _ => .no)
      | _, _ => .no)
    | _ => .no)
  | _ => .no
/-- a built-in kind -/
inductive Kd where
  | str | lst | dct | tup
  deriving DecidableEq
def fitK : Bm → Kd → Bool
  | .append, .lst => true
  | .extend, .lst => true
  | .pop, .lst => true
  | .pop, .dct => true
  | .insert, .lst => true
  | .remove, .lst => true
  | .clear, .lst => true
  | .count, .lst => true
  | .count, .tup => true
  | .index, .lst => true
  | .get, .dct => true
  | .update, .dct => true
  | .split, .str => true
  | .join, .str => true
  | _, _ => false
def kd (v : W) (S : Sto) : Option Kd := match v with
  | .str _ => some .str
  | .tup _ => some .tup
  | .ref n => (match S.get n with
    | some (.lst _) => some .lst
    | some (.dct false _) => some .dct
    | _ => none)
  | _ => none
def setIW (o i v : W) (S : Sto) : R Unit := match o with
  | .ref n => (match S.get n with
    | some (.lst xs) => (match i with
      | .int k => (match ixN xs.length k with
        | some j => .ok () (S.put n (.lst (xs.set j v)))
        | none => .no)
      | _ => .no)
    | some (.dct false kvs) => (match i.key with
      | some k => if kvs.length ≤ lim then .ok () (S.put n (.dct false (putW kvs k v))) else .no
      | none => .no)
    | _ => .no)
  | _ => .no
def setAW (o : W) (f : Nm) (v : W) (S : Sto) : R Unit := match o with
  | .ref n => (match S.get n with
    | some (.ins c fs) => if fs.length ≤ 900 then .ok () (S.put n (.ins c (putf fs f v))) else .no
    | _ => .no)
  | _ => .no

/-! ### what is walked -/
inductive Iw where
  | vals (xs : List W)
  | list (n k : Nat)
  | keys (n : Nat) (ks : List W)
  | text (z : Str)
/-- the values of a walk, one after another, the state between -/
def walk {α : Type} (f : W → α → Sto → R α) : List W → α → Sto → R α
  | [], a, S => .ok a S
  | x :: r, a, S => (f x a S).bind fun a S => walk f r a S
/-- a list's items as they stand when they come -/
def walkL {α : Type} (n : Nat) (f : W → α → Sto → R α) : Nat → Nat → α → Sto → R α
  | 0, i, a, S => (match S.get n with
    | some (.lst xs) => if xs.length ≤ i then .ok a S else .no
    | some (.frz xs) => if xs.length ≤ i then .ok a S else .no
    | _ => .no)
  | k + 1, i, a, S => (match S.get n with
    | some (.lst xs) => (match xs[i]? with
      | some x => (f x a S).bind fun a S => walkL n f k (i + 1) a S
      | none => .no)
    | some (.frz xs) => (match xs[i]? with
      | some x => (f x a S).bind fun a S => walkL n f k (i + 1) a S
      | none => .no)
    | _ => .no)

/-! ### expressions -/
def setAll : List Nat → List W → Env → Option Env
  | [], [], σ => some σ
  | i :: is, v :: vs, σ => setAll is vs (σ.set i (some v))
  | _, _, _ => none
/-- a loop's target takes a value -/
def takeT (xs : List Nat) (one : Bool) (v : W) (σ : Env) : Option Env :=
  if one then (match xs with
    | [i] => some (σ.set i (some v))
    | _ => none)
  else (match v with
    | .tup vs => setAll xs vs σ
    | _ => none)
def wipeW (σ : Env) : List Nat → Env
  | [] => σ
  | v :: vs => (wipeW σ vs).set v none
def R.noex {α : Type} : R α → R α
  | .ok a S => .ok a S
  | _ => .no
def boolOf : W → Option Bool
  | .bl b => some b
  | _ => none
/-- a dict is locked, unlocked -/
def lock (n : Nat) (S : Sto) : Option Sto := match S.get n with
  | some (.dct false kvs) => some (S.put n (.dct true kvs))
  | _ => none
def unlock (n : Nat) (S : Sto) : Option Sto := match S.get n with
  | some (.dct true kvs) => some (S.put n (.dct false kvs))
  | _ => none
def isDct (S : Sto) (v : W) : Option Nat := match v with
  | .ref n => (match S.get n with
    | some (.dct false _) => if n < S.next then some n else none
    | _ => none)
  | _ => none
def tupOf : W → List W
  | .tup xs => xs
  | _ => []
/-- a turn of a comprehension: the list at D grows -/
def lcTurn (D : Nat) (σ0 : Env) (xs : List Nat) (one : Bool) (cnd : Option (Env → Sto → R W)) (elt : Env → Sto → R W) (x : W) (_ : Unit) (S : Sto) : R Unit :=
  match takeT xs one x (wipeW σ0 xs) with
  | none => .no
  | some σ =>
    let add : Sto → R Unit := fun S => (elt σ S).noex.bind fun v S => match S.get D with
      | some (.lst acc) => if acc.length ≤ lim then .ok () (S.put D (.lst (acc ++ [v]))) else .no
      | _ => .no
    match cnd with
    | none => add S
    | some c => (c σ S).noex.bind fun b S => match b with
      | .bl true => add S
      | .bl false => .ok () S
      | _ => .no
/-- what an iterable's value is walked as -/
def iterW (v : W) (S : Sto) : Option Iw := match v with
  | .tup xs => some (.vals xs)
  | .ref n => (match S.get n with
    | some (.lst xs) => some (.list n xs.length)
    | some (.frz xs) => some (.list n xs.length)
    | _ => none)
  | _ => none
def walkI {α : Type} (w : Iw) (f : W → α → Sto → R α) (a : α) (S : Sto) : R α := match w with
  | .vals xs => walk f xs a S
  | .list n k => walkL n f k 0 a S
  | .keys n ks => walk f ks a S
  | .text z => walk f (z.cps.toList.map fun c => .str ⟨#[c]⟩) a S

def eval (c : Call) : E → Env → Sto → R W
  | .var i, σ, S => (match σ[i]? with
    | some (some v) => .ok v S
    | _ => .no)
  | .int i, _, S => .ok (.int i) S
  | .bl b, _, S => .ok (.bl b) S
  | .non, _, S => .ok .non S
  | .str n, _, S => .ok (.str n.str) S
  | .gi _ i, _, S => .ok (.int i) S
  | .gs _ s, _, S => .ok (.str s.str) S
  | .bin o a b, σ, S => (eval c a σ S).bind fun x S => (eval c b σ S).bind fun y S => binW o x y S
  | .neg a, σ, S => (eval c a σ S).bind fun x S => (match x with
    | .int i => .ok (.int (-i)) S
    | _ => .no)
  | .nt a, σ, S => (eval c a σ S).bind fun x S => (match x with
    | .bl b => .ok (.bl (!b)) S
    | _ => .no)
  | .and a b, σ, S => (eval c a σ S).bind fun x S => (match x with
    | .bl true => eval c b σ S
    | .bl false => .ok (.bl false) S
    | _ => .no)
  | .or a b, σ, S => (eval c a σ S).bind fun x S => (match x with
    | .bl true => .ok (.bl true) S
    | .bl false => eval c b σ S
    | _ => .no)
  | .cmp o a b, σ, S => (eval c a σ S).bind fun x S => (eval c b σ S).bind fun y S => cmpW o x y S
  | .chain o p a b d, σ, S => (eval c a σ S).bind fun x S => (eval c b σ S).bind fun y S => (cmpW o x y S).bind fun k S => (match k with
    | .bl true => (eval c d σ S).bind fun z S => cmpW p y z S
    | .bl false => .ok (.bl false) S
    | _ => .no)
  | .ife t a b, σ, S => (eval c t σ S).bind fun x S => (match x with
    | .bl true => eval c a σ S
    | .bl false => eval c b σ S
    | _ => .no)
  | .call f as, σ, S => (eval c as σ S).bind fun t S => c (.fn f) (tupOf t) S
  | .new k as, σ, S => (eval c as σ S).bind fun t S => (c (.me k .d_init) (.ref S.next :: tupOf t) (S.new (.ins k []))).bind fun v S' => (match v with
    | .non => .ok (.ref S.next) S'
    | _ => .no)
  | .meth o m as, σ, S => (eval c o σ S).bind fun v S => (match v with
    | .ref n => (match S.get n with
      | some (.ins k fs) => (match fld fs m with
        | none => (eval c as σ S).noex.bind fun t S => c (.me k m) (.ref n :: tupOf t) S
        | some _ => .no)
      | _ => .no)
    | _ => .no)
  | .bi f as, σ, S => (eval c as σ S).bind fun t S => biW f (tupOf t) S
  | .bm m o as, σ, S => (eval c o σ S).bind fun v S => (match kd v S with
    | some k => if fitK m k then (eval c as σ S).bind fun t S => if kd v S = some k then bmW m v (tupOf t) S else .no else .no
    | none => .no)
  | .attr o f, σ, S => (eval c o σ S).bind fun v S => (match v with
    | .ref n => (match S.get n with
      | some (.ins _ fs) => (match fld fs f with
        | some x => .ok x S
        | none => .no)
      | _ => .no)
    | _ => .no)
  | .ix a i, σ, S => (eval c a σ S).bind fun x S => (eval c i σ S).bind fun y S => itemW x y S
  | .sl a lo hi, σ, S => (eval c a σ S).bind fun x S => (match lo with
    | .no => R.ok W.non S
    | _ => (eval c lo σ S).bind intR).bind fun l S => (match hi with
    | .no => R.ok W.non S
    | _ => (eval c hi σ S).bind intR).bind fun h S => sliceW x (partO l) (partO h) S
  | .rev a, σ, S => (eval c a σ S).bind fun x S => revW x S
  | .tup es, σ, S => (eval c es σ S).bind fun t S => .ok t S
  | .lst es, σ, S => (eval c es σ S).bind fun t S => mk (.lst (tupOf t)) S
  | .dct kvs, σ, S => (match kvs with
    | .nil => mk (.dct false []) S
    | _ => (eval c kvs σ (S.new (.dct false []))).bind fun t S' => (match S'.get S.next, pairsOf (tupOf t) with
      | some (.dct false []), some ps => if ps.length ≤ 15 then .ok (.ref S.next) (S'.put S.next (.dct false (mergeW [] ps))) else .no
      | _, _ => .no))
  | .lc xs one it elt cnd, σ, S => (eval c it σ S).bind fun v S1 =>
    let test : Option (Env → Sto → R W) := match cnd with
      | .no => none
      | _ => some fun σ S => eval c cnd σ S
    (match isDct S v with
    | some n => (match lock n S with
      | some S2 => (eval c it σ S2).noex.bind fun v' S3 => (match v' with
        | .ref m => if m = n then (match S3.get n with
            | some (.dct true kvs) => (walk (lcTurn S3.next σ xs one test fun σ S => eval c elt σ S) (kvs.map fun kv => keyW kv.1) () (S3.new (.lst []))).bind fun _ S4 => (match unlock n S4 with
              | some S5 => .ok (.ref S3.next) S5
              | none => .no)
            | _ => .no) else .no
        | _ => .no)
      | none => .no)
    | none => (match iterW v S1 with
      | some w => (walkI w (lcTurn S1.next σ xs one test fun σ S => eval c elt σ S) () (S1.new (.lst []))).bind fun _ S2 => .ok (.ref S1.next) S2
      | none => .no))
  | .isi a t, σ, S => (eval c a σ S).bind fun x S => boolR (isiW t x S) S
  | .rng1 a, σ, S => (eval c a σ S).bind fun x S => (match x with
    | .int n => if -100000 ≤ n ∧ n ≤ 100000 then .ok (.tup (rangeW 0 n)) S else .no
    | _ => .no)
  | .rng2 a b, σ, S => (eval c a σ S).bind fun x S => (eval c b σ S).bind fun y S => (match x, y with
    | .int i, .int j => if -100000 ≤ i ∧ i ≤ 100000 ∧ -100000 ≤ j ∧ j ≤ 100000 then .ok (.tup (rangeW i j)) S else .no
    | _, _ => .no)
  | .enm _, _, _ => .no
  | .nil, _, S => .ok (.tup []) S
  | .cons a r, σ, S => (eval c a σ S).bind fun x S => (eval c r σ S).bind fun t S => .ok (.tup (x :: tupOf t)) S
  | .kv k v r, σ, S => (eval c k σ S).bind fun x S => (eval c v σ S).bind fun y S => (eval c r σ S).bind fun t S => .ok (.tup (.tup [x, y] :: tupOf t)) S
  | .no, _, S => .ok (.tup []) S

/-! ### statements -/
inductive RS where
  | nx (σ : Env) (S : Sto)
  | rt (v : W) (S : Sto)
  | ex (x : Exc) (σ : Env) (S : Sto)
  | no
def RS.then (r : RS) (f : Env → Sto → RS) : RS := match r with
  | .nx σ S => f σ S
  | .rt v S => .rt v S
  | .ex x σ S => .ex x σ S
  | .no => .no
def R.to {α : Type} (r : R α) (σ : Env) (f : α → Sto → RS) : RS := match r with
  | .ok a S => f a S
  | .ex x S => .ex x σ S
  | .no => .no
def walkS (f : W → Env → Sto → RS) : List W → Env → Sto → RS
  | [], σ, S => .nx σ S
  | x :: r, σ, S => (f x σ S).then fun σ S => walkS f r σ S
def walkLS (n : Nat) (f : Nat → W → Env → Sto → RS) : Nat → Nat → Env → Sto → RS
  | 0, i, σ, S => (match lstOf S (.ref n) with
    | some xs => if xs.length ≤ i then .nx σ S else .no
    | none => .no)
  | k + 1, i, σ, S => (match lstOf S (.ref n) with
    | some xs => (match xs[i]? with
      | some x => (f i x σ S).then fun σ S => walkLS n f k (i + 1) σ S
      | none => .no)
    | none => .no)
def walkIS (w : Iw) (f : W → Env → Sto → RS) (σ : Env) (S : Sto) : RS := match w with
  | .vals xs => walkS f xs σ S
  | .list n k => walkLS n (fun _ => f) k 0 σ S
  | .keys _ ks => walkS f ks σ S
  | .text z => walkS f (z.cps.toList.map fun c => .str ⟨#[c]⟩) σ S
def whlF (t : Env → Sto → R W) (f : Env → Sto → RS) : Nat → Env → Sto → RS
  | 0, _, _ => .no
  | k + 1, σ, S => (t σ S).to σ fun b S => match b with
    | .bl true => (f σ S).then fun σ S => whlF t f k σ S
    | .bl false => .nx σ S
    | _ => .no
def fuel : Nat := 1000000000
/-- what leaves a locked loop -/
def RS.unlock (n : Nat) (r : RS) : RS := match r with
  | .nx σ S => (match D.unlock n S with
    | some S => .nx σ S
    | none => .no)
  | .rt v S => (match D.unlock n S with
    | some S => .rt v S
    | none => .no)
  | _ => .no
def exec (c : Call) : S → Env → Sto → RS
  | .nil, σ, S => .nx σ S
  | .cons s r, σ, S => (exec c s σ S).then fun σ S => exec c r σ S
  | .pass, σ, S => .nx σ S
  | .ex e, σ, S => (eval c e σ S).to σ fun _ S => .nx σ S
  | .set x e, σ, S => (eval c e σ S).to σ fun v S => .nx (σ.set x (some v)) S
  | .setA o f e, σ, S => (eval c e σ S).to σ fun v S => (eval c o σ S).to σ fun a S => (setAW a f v S).to σ fun _ S => .nx σ S
  | .setI o i e, σ, S => (eval c e σ S).to σ fun v S => (eval c o σ S).to σ fun a S => (eval c i σ S).to σ fun k S => (setIW a k v S).to σ fun _ S => .nx σ S
  | .setT xs e, σ, S => (eval c e σ S).to σ fun v S => (match v with
    | .tup vs => (match setAll xs vs σ with
      | some σ => .nx σ S
      | none => .no)
    | _ => .no)
  | .par xs es, σ, S => (eval c es σ S).to σ fun v S => (match setAll xs (tupOf v) σ with
      | some σ => .nx σ S
      | none => .no)
  | .ite t a b, σ, S => (eval c t σ S).to σ fun x S => (match x with
    | .bl true => exec c a σ S
    | .bl false => exec c b σ S
    | _ => .no)
  | .for_ xs one it body, σ, S =>
    let turn : W → Env → Sto → RS := fun x σ S => match takeT xs one x σ with
      | some σ => exec c body σ S
      | none => .no
    (eval c it σ S).to σ fun v S1 => (match isDct S v with
    | some n => (match lock n S with
      | some S2 => ((eval c it σ S2).to σ fun v' S3 => (match v' with
        | .ref m => if m = n then (match S3.get n with
          | some (.dct true kvs) => walkS turn (kvs.map fun kv => keyW kv.1) σ S3
          | _ => .no) else .no
        | _ => .no)).unlock n
      | none => .no)
    | none => (match iterW v S1 with
      | some w => walkIS w turn σ S1
      | none => .no))
  | .forE i x a body, σ, S => (eval c a σ S).to σ fun v S => (match v with
    | .ref n => (match lstOf S v with
      | some xs => walkLS n (fun k y σ S => exec c body ((σ.set i (some (.int k))).set x (some y)) S) xs.length 0 σ S
      | none => .no)
    | _ => .no)
  | .whl t body, σ, S => whlF (fun σ S => eval c t σ S) (fun σ S => exec c body σ S) fuel σ S
  | .ret e, σ, S => (eval c e σ S).to σ fun v S => .rt v S
  | .retN, _, S => .rt .non S
  | .rse k, σ, S => .ex ⟨k, none⟩ σ S
  | .rseA k e, σ, S => (eval c e σ S).to σ fun v S => .ex ⟨k, some v⟩ σ S
  | .tri body cs _ _ suite, σ, S => (match exec c body σ S with
    | .ex x σ S => if cs.contains x.cls then exec c suite σ S else .no
    | r => r)

/-! ### defs -/
structure Df where
  np : Nat
  N : List Str
  body : S
abbrev Tab := Fk → Option Df
def run (T : Tab) : Nat → Call
  | 0, _, _, _ => .no
  | k + 1, f, as, S => (match T f with
    | none => .no
    | some d => if as.length = d.np then (match exec (run T k) d.body (as.map some ++ List.replicate (d.N.length - d.np) none) S with
      | .nx _ S => .ok .non S
      | .rt v S => .ok v S
      | .ex x _ S => .ex x S
      | .no => .no) else .no)
end D
end

section
/-! How a store of one's own stands for the layer's heap. -/
namespace D
open PySem PySem.Spec PyProof.Rows L2

abbrev Rho := Nat → Option Addr
/-- a tuple whose object is known: it has no dict of its own -/
def TupAt (H : Hp) (a : Addr) (vs : List V) : Prop := ∃ o, H a = some (.frz o (.tup vs)) ∧ o.dict = none
theorem TupAt.sq {K : PySem.W.Frag} {H : Hp} {a : Addr} {vs : List V} (h : TupAt H a vs) : SqT K H a vs := by
  obtain ⟨o, e, _⟩ := h
  exact .inl (.inr ⟨o, e⟩)
theorem tupAt_new {H : Hp} {p : Addr} {o : Obj} {vs : List V} (d : o.dict = none) : TupAt (upd H p (.frz o (.tup vs))) p vs := ⟨o, upd_same, d⟩
mutual
inductive RV (K : PySem.W.Frag) (r : Rho) (H : Hp) : W → V → Prop
  | non : RV K r H .non .non
  | bl (b : Bool) : RV K r H (.bl b) (.bl b)
  | int (i : Int) : RV K r H (.int i) (.int i)
  | str (x : Str) : RV K r H (.str x) (.str x)
  | tup {xs : List W} {a : Addr} {vs : List V} : TupAt H a vs → RVs K r H xs vs → RV K r H (.tup xs) (.ref a)
  | ref {n : Nat} {a : Addr} : r n = some a → RV K r H (.ref n) (.ref a)
inductive RVs (K : PySem.W.Frag) (r : Rho) (H : Hp) : List W → List V → Prop
  | nil : RVs K r H [] []
  | cons {x : W} {xs : List W} {v : V} {vs : List V} : RV K r H x v → RVs K r H xs vs → RVs K r H (x :: xs) (v :: vs)
end

/-- later: what stood for something stands for it, tuples stay -/
structure Ge (K : PySem.W.Frag) (r : Rho) (H : Hp) (r' : Rho) (H' : Hp) : Prop where
  ext : ∀ n a, r n = some a → r' n = some a
  tup : ∀ a vs, TupAt H a vs → TupAt H' a vs
  frz : ∀ a o u, H a = some (.frz o u) → H' a = some (.frz o u)
theorem Ge.refl {K : PySem.W.Frag} {r : Rho} {H : Hp} : Ge K r H r H := ⟨fun _ _ h => h, fun _ _ h => h, fun _ _ _ h => h⟩
theorem Ge.trans {K : PySem.W.Frag} {r r1 r2 : Rho} {H H1 H2 : Hp} (a : Ge K r H r1 H1) (b : Ge K r1 H1 r2 H2) : Ge K r H r2 H2 :=
  ⟨fun n x h => b.ext n x (a.ext n x h), fun x vs h => b.tup x vs (a.tup x vs h), fun x o u h => b.frz x o u (a.frz x o u h)⟩

section
variable {K : PySem.W.Frag} {r r' : Rho} {H H' : Hp}
mutual
theorem RV.mono (g : Ge K r H r' H') : ∀ {w : W} {v : V}, RV K r H w v → RV K r' H' w v
  | _, _, .non => .non
  | _, _, .bl b => .bl b
  | _, _, .int i => .int i
  | _, _, .str x => .str x
  | _, _, .tup h hs => .tup (g.tup _ _ h) (RVs.mono g hs)
  | _, _, .ref h => .ref (g.ext _ _ h)
theorem RVs.mono (g : Ge K r H r' H') : ∀ {ws : List W} {vs : List V}, RVs K r H ws vs → RVs K r' H' ws vs
  | _, _, .nil => .nil
  | _, _, .cons h hs => .cons (RV.mono g h) (RVs.mono g hs)
end
/-- tuples alone -/
structure Gt (r : Rho) (H : Hp) (r' : Rho) (H' : Hp) : Prop where
  ext : ∀ n a, r n = some a → r' n = some a
  tup : ∀ a vs, TupAt H a vs → TupAt H' a vs
mutual
theorem RV.monoT (g : Gt r H r' H') : ∀ {w : W} {v : V}, RV K r H w v → RV K r' H' w v
  | _, _, .non => .non
  | _, _, .bl b => .bl b
  | _, _, .int i => .int i
  | _, _, .str x => .str x
  | _, _, .tup h hs => .tup (g.tup _ _ h) (RVs.monoT g hs)
  | _, _, .ref h => .ref (g.ext _ _ h)
theorem RVs.monoT (g : Gt r H r' H') : ∀ {ws : List W} {vs : List V}, RVs K r H ws vs → RVs K r' H' ws vs
  | _, _, .nil => .nil
  | _, _, .cons h hs => .cons (RV.monoT g h) (RVs.monoT g hs)
end
theorem RVs.length : ∀ {ws : List W} {vs : List V}, RVs K r H ws vs → ws.length = vs.length
  | _, _, .nil => rfl
  | _, _, .cons _ h => congrArg Nat.succ (RVs.length h)
theorem RVs.get : ∀ {ws : List W} {vs : List V} {i : Nat} {w : W}, RVs K r H ws vs → ws[i]? = some w → ∃ v, vs[i]? = some v ∧ RV K r H w v
  | _, _, _, _, .nil, e => by simp at e
  | _, _, 0, _, .cons h _, e => by simp at e; subst e; exact ⟨_, rfl, h⟩
  | _, _, i + 1, w, .cons _ hs, e => by
    obtain ⟨v, e1, h1⟩ := RVs.get (i := i) (w := w) hs (by simpa using e)
    exact ⟨v, by simpa using e1, h1⟩
theorem RVs.get' : ∀ {ws : List W} {vs : List V} {i : Nat} {v : V}, RVs K r H ws vs → vs[i]? = some v → ∃ w, ws[i]? = some w ∧ RV K r H w v
  | _, _, _, _, .nil, e => by simp at e
  | _, _, 0, _, .cons h _, e => by simp at e; subst e; exact ⟨_, rfl, h⟩
  | _, _, i + 1, w, .cons _ hs, e => by
    obtain ⟨v, e1, h1⟩ := RVs.get' (i := i) (v := w) hs (by simpa using e)
    exact ⟨v, by simpa using e1, h1⟩
theorem RVs.append : ∀ {xs ys : List W} {us vs : List V}, RVs K r H xs us → RVs K r H ys vs → RVs K r H (xs ++ ys) (us ++ vs)
  | _, _, _, _, .nil, h => h
  | _, _, _, _, .cons a b, h => .cons a (RVs.append b h)
theorem RVs.take : ∀ {xs : List W} {us : List V} (n : Nat), RVs K r H xs us → RVs K r H (xs.take n) (us.take n)
  | _, _, 0, _ => by simp; exact .nil
  | _, _, n + 1, .nil => by simp; exact .nil
  | _, _, n + 1, .cons a b => by simp; exact .cons a (RVs.take n b)
theorem RVs.drop : ∀ {xs : List W} {us : List V} (n : Nat), RVs K r H xs us → RVs K r H (xs.drop n) (us.drop n)
  | _, _, 0, h => by simpa using h
  | _, _, n + 1, .nil => by simp; exact .nil
  | _, _, n + 1, .cons a b => by simp; exact RVs.drop n b
theorem RVs.set {x : W} {v : V} (h : RV K r H x v) : ∀ {xs : List W} {us : List V} (i : Nat), RVs K r H xs us → RVs K r H (xs.set i x) (us.set i v)
  | _, _, _, .nil => .nil
  | _, _, 0, .cons _ b => .cons h b
  | _, _, i + 1, .cons a b => .cons a (RVs.set h i b)
theorem RVs.eraseIdx : ∀ {xs : List W} {us : List V} (i : Nat), RVs K r H xs us → RVs K r H (xs.eraseIdx i) (us.eraseIdx i)
  | _, _, _, .nil => .nil
  | _, _, 0, .cons _ b => b
  | _, _, i + 1, .cons a b => .cons a (RVs.eraseIdx i b)
theorem RVs.reverse {xs : List W} {us : List V} (h : RVs K r H xs us) : RVs K r H xs.reverse us.reverse := by
  induction xs generalizing us with
  | nil => cases h; exact .nil
  | cons x xs ih =>
    cases h with
    | cons a b =>
      rw [List.reverse_cons, List.reverse_cons]
      exact (ih b).append (.cons a .nil)
theorem RVs.rep {xs : List W} {us : List V} (h : RVs K r H xs us) : ∀ n : Nat, RVs K r H (List.replicate n xs).flatten (List.replicate n us).flatten
  | 0 => .nil
  | n + 1 => by
    rw [List.replicate_succ, List.replicate_succ, List.flatten_cons, List.flatten_cons]
    exact h.append (RVs.rep h n)
theorem RV.scal {w : W} {v : V} (h : RV K r H w v) (e : w.sc = true) : v = w.v ∧ flatV v = true := by
  cases h with
  | non => exact ⟨rfl, rfl⟩
  | bl b => exact ⟨rfl, rfl⟩
  | int i => exact ⟨rfl, rfl⟩
  | str x => exact ⟨rfl, rfl⟩
  | tup _ _ => cases e
  | ref _ => cases e
theorem RVs.scal : ∀ {ws : List W} {vs : List V}, RVs K r H ws vs → allSc ws = true → vs = ws.map W.v ∧ vs.all flatV = true
  | _, _, .nil, _ => ⟨rfl, rfl⟩
  | x :: xs, v :: vs, .cons h hs, e => by
    have e' : (x.sc && xs.all W.sc) = true := by simpa [allSc] using e
    rw [Bool.and_eq_true] at e'
    obtain ⟨e1, f1⟩ := h.scal e'.1
    obtain ⟨e2, f2⟩ := RVs.scal hs (show allSc xs = true from e'.2)
    refine ⟨by rw [List.map_cons, ← e1, ← e2], ?_⟩
    rw [List.all_cons, f1, f2]; rfl
theorem RVs.ints : ∀ {ws : List W} {vs : List V} {ns : List Int}, RVs K r H ws vs → intsOf ws = some ns → vs = ns.map V.int
  | _, _, ns, .nil, e => by
    simp only [intsOf, Option.some.injEq] at e
    subst e; rfl
  | x :: xs, v :: vs, ns, .cons h hs, e => by
    cases h with
    | int i =>
      simp only [intsOf] at e
      cases q : intsOf xs with
      | none => rw [q] at e; cases e
      | some ms =>
        rw [q] at e
        have e' : i :: ms = ns := by simpa using e
        subst e'
        rw [List.map_cons, RVs.ints hs q]
    | non => simp only [intsOf] at e; cases e
    | bl b => simp only [intsOf] at e; cases e
    | str x => simp only [intsOf] at e; cases e
    | tup _ _ => simp only [intsOf] at e; cases e
    | ref _ => simp only [intsOf] at e; cases e
theorem rvs_ints : ∀ ns : List Int, RVs K r H (ns.map W.int) (ns.map V.int)
  | [] => .nil
  | n :: ns => .cons (.int n) (rvs_ints ns)
theorem RVs.strs : ∀ {ws : List W} {vs : List V} {ns : List Str}, RVs K r H ws vs → strsOf ws = some ns → vs = ns.map V.str
  | _, _, ns, .nil, e => by
    simp only [strsOf, Option.some.injEq] at e
    subst e; rfl
  | x :: xs, v :: vs, ns, .cons h hs, e => by
    cases h with
    | str i =>
      simp only [strsOf] at e
      cases q : strsOf xs with
      | none => rw [q] at e; cases e
      | some ms =>
        rw [q] at e
        have e' : i :: ms = ns := by simpa using e
        subst e'
        rw [List.map_cons, RVs.strs hs q]
    | non => simp only [strsOf] at e; cases e
    | bl b => simp only [strsOf] at e; cases e
    | int x => simp only [strsOf] at e; cases e
    | tup _ _ => simp only [strsOf] at e; cases e
    | ref _ => simp only [strsOf] at e; cases e
theorem rvs_strs : ∀ ns : List Str, RVs K r H (ns.map W.str) (ns.map V.str)
  | [] => .nil
  | n :: ns => .cons (.str n) (rvs_strs ns)
end

/-- a dict's entries, an instance's fields -/
abbrev RKV (K : PySem.W.Frag) (r : Rho) (H : Hp) : List (Key × W) → List (Key × V) → Prop := Paired fun p q => p.1 = q.1 ∧ RV K r H p.2 q.2
abbrev RFs (K : PySem.W.Frag) (r : Rho) (H : Hp) : List (Nm × W) → List (Str × V) → Prop := Paired fun p q => p.1.str = q.1 ∧ RV K r H p.2 q.2
inductive RN (K : PySem.W.Frag) (cl : List Nm) (r : Rho) (H : Hp) : Nd → HO → Prop
  | lst {xs : List W} {vs : List V} : RVs K r H xs vs → RN K cl r H (.lst xs) (.lst vs)
  | frz {xs : List W} {vs : List V} {o : Obj} : RVs K r H xs vs → RN K cl r H (.frz xs) (.frz o (.lst vs))
  | dct {kvs : List (Key × W)} {us : List (Key × V)} : RKV K r H kvs us → RN K cl r H (.dct false kvs) (.dK us)
  | dctL {kvs : List (Key × W)} {us : List (Key × V)} {o : Obj} : RKV K r H kvs us → RN K cl r H (.dct true kvs) (.frz o (.dK us))
  | ins {c : Nm} {fs : List (Nm × W)} {us : List (Str × V)} {dx : Addr} : c ∈ cl → RFs K r H fs us → RN K cl r H (.ins c fs) (.ins (He.ga K c.str) dx us)
structure Rel (K : PySem.W.Frag) (cl : List Nm) (r : Rho) (S : Sto) (H : Hp) : Prop where
  lt : ∀ n a, r n = some a → n < S.next
  obj : ∀ n, n < S.next → ∃ a d o, r n = some a ∧ S.get n = some d ∧ H a = some o ∧ RN K cl r H d o
  inj : ∀ n m a, r n = some a → r m = some a → n = m
  out : ∀ n, S.next ≤ n → S.get n = none

section
variable {K : PySem.W.Frag} {cl : List Nm} {r r' : Rho} {S : Sto} {H H' : Hp}
theorem RKV.mono (g : Ge K r H r' H') : ∀ {xs : List (Key × W)} {us : List (Key × V)}, RKV K r H xs us → RKV K r' H' xs us
  | _, _, .nil => .nil
  | _, _, .cons h hs => .cons ⟨h.1, h.2.mono g⟩ (RKV.mono g hs)
theorem RFs.mono (g : Ge K r H r' H') : ∀ {xs : List (Nm × W)} {us : List (Str × V)}, RFs K r H xs us → RFs K r' H' xs us
  | _, _, .nil => .nil
  | _, _, .cons h hs => .cons ⟨h.1, h.2.mono g⟩ (RFs.mono g hs)
theorem RN.mono (g : Ge K r H r' H') {d : Nd} {o : HO} (h : RN K cl r H d o) : RN K cl r' H' d o := by
  cases h with
  | lst h => exact .lst (h.mono g)
  | frz h => exact .frz (h.mono g)
  | dct h => exact .dct (h.mono g)
  | dctL h => exact .dctL (h.mono g)
  | ins m h => exact .ins m (h.mono g)
theorem RKV.monoT (g : Gt r H r' H') : ∀ {xs : List (Key × W)} {us : List (Key × V)}, RKV K r H xs us → RKV K r' H' xs us
  | _, _, .nil => .nil
  | _, _, .cons h hs => .cons ⟨h.1, h.2.monoT g⟩ (RKV.monoT g hs)
theorem RFs.monoT (g : Gt r H r' H') : ∀ {xs : List (Nm × W)} {us : List (Str × V)}, RFs K r H xs us → RFs K r' H' xs us
  | _, _, .nil => .nil
  | _, _, .cons h hs => .cons ⟨h.1, h.2.monoT g⟩ (RFs.monoT g hs)
theorem RN.monoT (g : Gt r H r' H') {d : Nd} {o : HO} (h : RN K cl r H d o) : RN K cl r' H' d o := by
  cases h with
  | lst h => exact .lst (h.monoT g)
  | frz h => exact .frz (h.monoT g)
  | dct h => exact .dct (h.monoT g)
  | dctL h => exact .dctL (h.monoT g)
  | ins m h => exact .ins m (h.monoT g)
theorem Rel.at (h : Rel K cl r S H) {n : Nat} {a : Addr} (e : r n = some a) : ∃ d o, S.get n = some d ∧ H a = some o ∧ RN K cl r H d o := by
  obtain ⟨a', d, o, e1, e2, e3, e4⟩ := h.obj n (h.lt n a e)
  rw [e] at e1; cases e1
  exact ⟨d, o, e2, e3, e4⟩
theorem Rel.node (h : Rel K cl r S H) {n : Nat} {a : Addr} {d : Nd} (e : r n = some a) (g : S.get n = some d) : ∃ o, H a = some o ∧ RN K cl r H d o := by
  obtain ⟨d', o, e2, e3, e4⟩ := h.at e
  rw [g] at e2; cases e2
  exact ⟨o, e3, e4⟩
/-- no tuple stands where a node stands -/
theorem RN.notup {d : Nd} {o : HO} (h : RN K cl r H d o) {vs : List V} : o ≠ .tup vs ∧ ∀ ob, o ≠ .frz ob (.tup vs) := by
  cases h <;> exact ⟨fun q => (nomatch q), fun _ q => (nomatch q)⟩
/-- a new object that nobody names yet -/
theorem ge_fresh {p : Addr} {o : HO} (hp : H p = none) : Ge K r H r (upd H p o) := by
  exact ⟨fun _ _ h => h, fun a vs ⟨ob, h, d⟩ => ⟨ob, by rw [upd_ne (ne_of_none h hp)]; exact h, d⟩, fun a o u h => by rw [upd_ne (ne_of_none h hp)]; exact h⟩
theorem Rel.fresh (h : Rel K cl r S H) {p : Addr} {o : HO} (hp : H p = none) : Rel K cl r S (upd H p o) := by
  refine ⟨h.lt, fun n hn => ?_, h.inj, h.out⟩
  obtain ⟨a, d, u, e1, e2, e3, e4⟩ := h.obj n hn
  exact ⟨a, d, u, e1, e2, by rw [upd_ne (ne_of_none e3 hp)]; exact e3, e4.mono (ge_fresh hp)⟩
def ext (r : Rho) (n : Nat) (p : Addr) : Rho := fun m => if m = n then some p else r m
theorem ext_same {n : Nat} {p : Addr} : ext r n p n = some p := by simp [ext]
theorem ge_ext (h : Rel K cl r S H) {p : Addr} {o : HO} (hp : H p = none) : Ge K r H (ext r S.next p) (upd H p o) := by
  refine ⟨fun n a e => ?_, (ge_fresh (K := K) (r := r) hp).tup, (ge_fresh (K := K) (r := r) hp).frz⟩
  have := h.lt n a e
  unfold ext
  rw [if_neg (by omega)]; exact e
theorem Rel.new (h : Rel K cl r S H) {p : Addr} {d : Nd} {o : HO} (hp : H p = none) (n : RN K cl (ext r S.next p) (upd H p o) d o) : Rel K cl (ext r S.next p) (S.new d) (upd H p o) := by
  have g := ge_ext (o := o) h hp
  have fr : ∀ m, r m ≠ some p := fun m e => by
    obtain ⟨_, _, _, e3, _⟩ := h.at e
    rw [hp] at e3; cases e3
  refine ⟨fun m a e => ?_, fun m hm => ?_, fun m k a e1 e2 => ?_, fun m hm => ?_⟩
  · unfold ext at e
    split at e
    · rename_i q; rw [q]; exact Nat.lt_succ_self _
    · exact Nat.lt_succ_of_lt (h.lt m a e)
  · by_cases q : m = S.next
    · subst q
      exact ⟨p, d, o, ext_same, by simp [Sto.new], upd_same, n⟩
    · have hm' : m < S.next := by
        have : m < S.next + 1 := hm
        omega
      obtain ⟨a, d', u, e1, e2, e3, e4⟩ := h.obj m hm'
      exact ⟨a, d', u, g.ext m a e1, by simp [Sto.new, q, e2], by rw [upd_ne (ne_of_none e3 hp)]; exact e3, e4.mono g⟩
  · unfold ext at e1 e2
    split at e1 <;> split at e2
    · rename_i q1 q2; rw [q1, q2]
    · cases e1; exact absurd e2 (fr k)
    · cases e2; exact absurd e1 (fr m)
    · exact h.inj m k a e1 e2
  · have hm' : S.next + 1 ≤ m := hm
    have q : m ≠ S.next := by omega
    simp only [Sto.new, if_neg q]
    exact h.out m (by omega)
theorem ge_put (h : Rel K cl r S H) {n : Nat} {a : Addr} {o : HO} (e : r n = some a) (nf : ∀ ob u, H a ≠ some (.frz ob u)) : Ge K r H r (upd H a o) := by
  have key : ∀ b ob u, H b = some (.frz ob u) → upd H a o b = some (.frz ob u) := fun b ob u q => by rw [upd_ne (show b ≠ a from fun z => nf ob u (by rw [← z]; exact q))]; exact q
  exact ⟨fun _ _ h => h, fun b vs ⟨ob, q, d⟩ => ⟨ob, key b ob _ q, d⟩, key⟩
theorem Rel.put (h : Rel K cl r S H) {n : Nat} {a : Addr} {d : Nd} {o : HO} (e : r n = some a) (nf : ∀ ob u, H a ≠ some (.frz ob u)) (k : RN K cl r (upd H a o) d o) : Rel K cl r (S.put n d) (upd H a o) := by
  refine ⟨h.lt, fun m hm => ?_, h.inj, fun m hm => ?_⟩
  · by_cases q : m = n
    · subst q
      exact ⟨a, d, o, e, by simp [Sto.put], upd_same, k⟩
    · obtain ⟨b, d', u, e1, e2, e3, e4⟩ := h.obj m hm
      have ne : b ≠ a := fun z => q (h.inj m n a (z ▸ e1) e)
      exact ⟨b, d', u, e1, by simp [Sto.put, q, e2], by rw [upd_ne ne]; exact e3, e4.mono (ge_put h e nf)⟩
  · have q : m ≠ n := fun z => by
      have := h.lt n a e
      have hm' : S.next ≤ m := hm
      omega
    simp only [Sto.put, if_neg q]
    exact h.out m hm
end

/-- a store's node is laid anew, whatever stood there -/
theorem Rel.lay {K : PySem.W.Frag} {cl : List Nm} {r : Rho} {S : Sto} {H : Hp} (h : Rel K cl r S H) {n : Nat} {a : Addr} {d : Nd} {o : HO} (e : r n = some a) (g : Gt r H r (upd H a o)) (k : RN K cl r (upd H a o) d o) : Rel K cl r (S.put n d) (upd H a o) := by
  refine ⟨h.lt, fun m hm => ?_, h.inj, fun m hm => ?_⟩
  · by_cases q : m = n
    · subst q
      exact ⟨a, d, o, e, by simp [Sto.put], upd_same, k⟩
    · obtain ⟨b, d', u, e1, e2, e3, e4⟩ := h.obj m hm
      have ne : b ≠ a := fun z => q (h.inj m n a (z ▸ e1) e)
      exact ⟨b, d', u, e1, by simp [Sto.put, q, e2], by rw [upd_ne ne]; exact e3, e4.monoT g⟩
  · have q : m ≠ n := fun z => by
      have := h.lt n a e
      have hm' : S.next ≤ m := hm
      omega
    simp only [Sto.put, if_neg q]
    exact h.out m hm

/-- the slots -/
structure RSig (K : PySem.W.Frag) (r : Rho) (H : Hp) (w : Env) (s : L2.St) : Prop where
  len : w.length = s.length
  at_ : ∀ (i : Nat) (x : W), w[i]? = some (some x) → ∃ v, s[i]? = some (some v) ∧ RV K r H x v
section
variable {K : PySem.W.Frag} {r r' : Rho} {H H' : Hp} {w : Env} {s : L2.St}
theorem RSig.mono (g : Ge K r H r' H') (h : RSig K r H w s) : RSig K r' H' w s := ⟨h.len, fun i x e => by
  obtain ⟨v, e1, e2⟩ := h.at_ i x e
  exact ⟨v, e1, e2.mono g⟩⟩
theorem RSig.set (h : RSig K r H w s) {x : W} {v : V} (i : Nat) (q : RV K r H x v) : RSig K r H (w.set i (some x)) (s.set i (some v)) := by
  refine ⟨by simp [h.len], fun j y e => ?_⟩
  by_cases hj : j = i
  · subst hj
    by_cases hl : j < w.length
    · rw [List.getElem?_set_self hl] at e
      cases e
      exact ⟨v, by rw [List.getElem?_set_self (by rw [← h.len]; exact hl)], q⟩
    · rw [List.getElem?_eq_none (by simpa using hl)] at e; cases e
  · rw [List.getElem?_set_ne (Ne.symm hj)] at e
    obtain ⟨u, e1, e2⟩ := h.at_ j y e
    exact ⟨u, by rw [List.getElem?_set_ne (Ne.symm hj)]; exact e1, e2⟩
theorem wipeW_length (w : Env) : ∀ vs : List Nat, (wipeW w vs).length = w.length
  | [] => rfl
  | v :: vs => by unfold wipeW; rw [List.length_set, wipeW_length w vs]
theorem RSig.wipe (h : RSig K r H w s) : ∀ vs : List Nat, RSig K r H (wipeW w vs) (L2.wipe s vs)
  | [] => h
  | v :: vs => by
    have ih := RSig.wipe h vs
    unfold wipeW L2.wipe
    refine ⟨by simp [ih.len], fun j y e => ?_⟩
    by_cases hj : j = v
    · subst hj
      by_cases hl : j < (wipeW w vs).length
      · rw [List.getElem?_set_self hl] at e; cases e
      · rw [List.getElem?_eq_none (by simpa using hl)] at e; cases e
    · rw [List.getElem?_set_ne (Ne.symm hj)] at e
      obtain ⟨u, e1, e2⟩ := ih.at_ j y e
      exact ⟨u, by rw [List.getElem?_set_ne (Ne.symm hj)]; exact e1, e2⟩
theorem RSig.start {ws : List W} {vs : List V} (h : RVs K r H ws vs) (n : Nat) : RSig K r H (ws.map some ++ List.replicate n none) (vs.map some ++ List.replicate n none) := by
  have hl := h.length
  refine ⟨by simp [hl], fun i x e => ?_⟩
  by_cases hi : i < ws.length
  · rw [List.getElem?_append_left (by simpa using hi), List.getElem?_map] at e
    cases q : ws[i]? with
    | none => rw [q] at e; cases e
    | some y =>
      rw [q] at e
      have : y = x := by simpa using e
      subst this
      obtain ⟨v, e1, e2⟩ := h.get q
      exact ⟨v, by rw [List.getElem?_append_left (by simpa [← hl] using hi), List.getElem?_map, e1]; rfl, e2⟩
  · rw [List.getElem?_append_right (by simpa using hi), List.getElem?_replicate] at e
    split at e <;> cases e
end

/-- an exception's own dict -/
def XR (K : PySem.W.Frag) (r : Rho) (H : Hp) (x : Exc) (d : Option Addr) : Prop := match x.arg with
  | none => d = none
  | some w => ∃ p v, d = some p ∧ H p = some (.xd [(("place" : Str), v)]) ∧ RV K r H w v
def xc (K : PySem.W.Frag) (x : Exc) : Value := .ref (He.ga K x.cls.str)

/-! ### what a run asks of what follows -/
section
variable (K : PySem.W.Frag) (cl : List Nm) (Wx : WX) (s : L2.St) (r : Rho) (H : Hp)
def Post (Q : VK) : R W → Prop
  | .ok v S => ∀ r' H' u, Ge K r H r' H' → Rel K cl r' S H' → RV K r' H' v u → Q u H'
  | .ex x S => ∀ r' H' d, Ge K r H r' H' → Rel K cl r' S H' → XR K r' H' x d → Wx (xc K x) d s H'
  | .no => False
def PostB (Q : Bool → Hp → Prop) : R W → Prop
  | .ok v S => ∃ b, v = .bl b ∧ ∀ r' H', Ge K r H r' H' → Rel K cl r' S H' → Q b H'
  | .ex x S => ∀ r' H' d, Ge K r H r' H' → Rel K cl r' S H' → XR K r' H' x d → Wx (xc K x) d s H'
  | .no => False
def PostA (Q : List V → Hp → Prop) : R W → Prop
  | .ok v S => ∀ r' H' us, Ge K r H r' H' → Rel K cl r' S H' → RVs K r' H' (tupOf v) us → Q us H'
  | .ex x S => ∀ r' H' d, Ge K r H r' H' → Rel K cl r' S H' → XR K r' H' x d → Wx (xc K x) d s H'
  | .no => False
def PostU (Q : Hp → Prop) : R Unit → Prop
  | .ok _ S => ∀ r' H', Ge K r H r' H' → Rel K cl r' S H' → Q H'
  | .ex x S => ∀ r' H' d, Ge K r H r' H' → Rel K cl r' S H' → XR K r' H' x d → Wx (xc K x) d s H'
  | .no => False
end
section
variable (K : PySem.W.Frag) (cl : List Nm) (Wx : WX) (r : Rho) (H : Hp)
def PostS (D : Ends) : RS → Prop
  | .nx w S => ∀ r' H' s, Ge K r H r' H' → Rel K cl r' S H' → RSig K r' H' w s → D.nx s H'
  | .rt v S => ∀ r' H' u, Ge K r H r' H' → Rel K cl r' S H' → RV K r' H' v u → D.rt u H'
  | .ex x w S => ∀ r' H' d s, Ge K r H r' H' → Rel K cl r' S H' → RSig K r' H' w s → XR K r' H' x d → Wx (xc K x) d s H'
  | .no => False
end
section
variable {K : PySem.W.Frag} {cl : List Nm} {Wx : WX} {s : L2.St} {r r1 : Rho} {H H1 : Hp}
theorem Post.mono (g : Ge K r H r1 H1) {Q : VK} : ∀ {m : R W}, Post K cl Wx s r H Q m → Post K cl Wx s r1 H1 Q m
  | .ok _ _, h => fun r' H' u g' => h r' H' u (g.trans g')
  | .ex _ _, h => fun r' H' d g' => h r' H' d (g.trans g')
  | .no, h => h
theorem PostA.mono (g : Ge K r H r1 H1) {Q : List V → Hp → Prop} : ∀ {m : R W}, PostA K cl Wx s r H Q m → PostA K cl Wx s r1 H1 Q m
  | .ok _ _, h => fun r' H' u g' => h r' H' u (g.trans g')
  | .ex _ _, h => fun r' H' d g' => h r' H' d (g.trans g')
  | .no, h => h
theorem PostB.mono (g : Ge K r H r1 H1) {Q : Bool → Hp → Prop} : ∀ {m : R W}, PostB K cl Wx s r H Q m → PostB K cl Wx s r1 H1 Q m
  | .ok _ _, ⟨b, e, h⟩ => ⟨b, e, fun r' H' g' => h r' H' (g.trans g')⟩
  | .ex _ _, h => fun r' H' d g' => h r' H' d (g.trans g')
  | .no, h => h
theorem PostU.mono (g : Ge K r H r1 H1) {Q : Hp → Prop} : ∀ {m : R Unit}, PostU K cl Wx s r H Q m → PostU K cl Wx s r1 H1 Q m
  | .ok _ _, h => fun r' H' g' => h r' H' (g.trans g')
  | .ex _ _, h => fun r' H' d g' => h r' H' d (g.trans g')
  | .no, h => h
theorem PostS.mono (g : Ge K r H r1 H1) {D : Ends} : ∀ {m : RS}, PostS K cl Wx r H D m → PostS K cl Wx r1 H1 D m
  | .nx _ _, h => fun r' H' u g' => h r' H' u (g.trans g')
  | .rt _ _, h => fun r' H' u g' => h r' H' u (g.trans g')
  | .ex _ _ _, h => fun r' H' d s g' => h r' H' d s (g.trans g')
  | .no, h => h
/-- one step, then the rest -/
theorem Post.bind {m : R W} {f : W → Sto → R W} {Q Q' : VK} (h : Post K cl Wx s r H Q (m.bind f))
    (k : ∀ v S r' H' u, Ge K r H r' H' → Rel K cl r' S H' → RV K r' H' v u → Post K cl Wx s r' H' Q (f v S) → Q' u H') : Post K cl Wx s r H Q' m := by
  cases m with
  | ok v S => exact fun r' H' u g q rv => k v S r' H' u g q rv (Post.mono g (show Post K cl Wx s r H Q (f v S) from h))
  | ex x S => exact h
  | no => exact h
theorem Post.bindA {m : R W} {f : W → Sto → R W} {Q : VK} {Q' : List V → Hp → Prop} (h : Post K cl Wx s r H Q (m.bind f))
    (k : ∀ v S r' H' us, Ge K r H r' H' → Rel K cl r' S H' → RVs K r' H' (tupOf v) us → Post K cl Wx s r' H' Q (f v S) → Q' us H') : PostA K cl Wx s r H Q' m := by
  cases m with
  | ok v S => exact fun r' H' u g q rv => k v S r' H' u g q rv (Post.mono g (show Post K cl Wx s r H Q (f v S) from h))
  | ex x S => exact h
  | no => exact h
theorem PostA.bind {m : R W} {f : W → Sto → R W} {Q' : VK} {Q : List V → Hp → Prop} (h : PostA K cl Wx s r H Q (m.bind f))
    (k : ∀ v S r' H' u, Ge K r H r' H' → Rel K cl r' S H' → RV K r' H' v u → PostA K cl Wx s r' H' Q (f v S) → Q' u H') : Post K cl Wx s r H Q' m := by
  cases m with
  | ok v S => exact fun r' H' u g q rv => k v S r' H' u g q rv (PostA.mono g (show PostA K cl Wx s r H Q (f v S) from h))
  | ex x S => exact h
  | no => exact h
theorem PostA.bindA {m : R W} {f : W → Sto → R W} {Q Q' : List V → Hp → Prop} (h : PostA K cl Wx s r H Q (m.bind f))
    (k : ∀ v S r' H' u, Ge K r H r' H' → Rel K cl r' S H' → RVs K r' H' (tupOf v) u → PostA K cl Wx s r' H' Q (f v S) → Q' u H') : PostA K cl Wx s r H Q' m := by
  cases m with
  | ok v S => exact fun r' H' u g q rv => k v S r' H' u g q rv (PostA.mono g (show PostA K cl Wx s r H Q (f v S) from h))
  | ex x S => exact h
  | no => exact h
/-- a test ahead of the rest -/
theorem Post.bindT {m : R W} {f : Bool → Sto → R W} {Q : VK} {Q' : Bool → Hp → Prop} (h : Post K cl Wx s r H Q (m.bind fun x S => match x with
    | .bl true => f true S
    | .bl false => f false S
    | _ => .no))
    (k : ∀ b S r' H', Ge K r H r' H' → Rel K cl r' S H' → Post K cl Wx s r' H' Q (f b S) → Q' b H') : PostB K cl Wx s r H Q' m := by
  cases m with
  | ok v S =>
    cases v with
    | bl b => cases b with
      | true => exact ⟨true, rfl, fun r' H' g q => k true S r' H' g q (Post.mono g (show Post K cl Wx s r H Q (f true S) from h))⟩
      | false => exact ⟨false, rfl, fun r' H' g q => k false S r' H' g q (Post.mono g (show Post K cl Wx s r H Q (f false S) from h))⟩
    | _ => exact False.elim h
  | ex x S => exact h
  | no => exact h
theorem PostS.to {m : R W} {w : Env} {f : W → Sto → RS} {D : Ends} {Q : VK} (sg : RSig K r H w s) (h : PostS K cl Wx r H D (m.to w f))
    (k : ∀ v S r' H' u, Ge K r H r' H' → Rel K cl r' S H' → RV K r' H' v u → PostS K cl Wx r' H' D (f v S) → Q u H') : Post K cl Wx s r H Q m := by
  cases m with
  | ok v S => exact fun r' H' u g q rv => k v S r' H' u g q rv (PostS.mono g (show PostS K cl Wx r H D (f v S) from h))
  | ex x S => exact fun r' H' d g q x => h r' H' d s g q (sg.mono g) x
  | no => exact h
end
end D
end

section
set_option maxHeartbeats 1000000
/-! Operators by values: what a run's operator gives, the layer's operator gives. -/
namespace D
open PySem PySem.Spec PyProof.Rows L2

theorem lim_lt {n : Nat} (h : n ≤ lim) : n < sizeLine := by
  rw [sizeLine_eq]
  have : lim = 16000000 := rfl
  omega
theorem lim_le {n : Nat} (h : n ≤ lim) : n ≤ sizeLine := Nat.le_of_lt (lim_lt h)
section
variable {K : PySem.W.Frag} {cl : List Nm} {Wx : WX} {s0 : L2.St} {r : Rho} {S : Sto} {H : Hp}
/-- a new object -/
theorem Post.mk {d : Nd} {o : HO} {Q : VK} (h : Post K cl Wx s0 r H Q (D.mk d S)) (rel : Rel K cl r S H) (n : RN K cl r H d o) : ∀ p, H p = none → Q (.ref p) (upd H p o) := fun p hp =>
  h (ext r S.next p) _ (.ref p) (ge_ext rel hp) (rel.new hp (n.mono (ge_ext rel hp))) (.ref ext_same)
/-- a new tuple -/
theorem Post.tup {ws : List W} {us : List V} {Q : VK} (h : Post K cl Wx s0 r H Q (.ok (.tup ws) S)) (rel : Rel K cl r S H) (n : RVs K r H ws us) : ∀ p o, o.dict = none → H p = none → Q (.ref p) (upd H p (.frz o (.tup us))) := fun p o hd hp =>
  h r _ (.ref p) (ge_fresh hp) (rel.fresh hp) (.tup (tupAt_new hd) (n.mono (ge_fresh hp)))
/-- a new tuple as the machine lays it -/
theorem tup_laid {X : Cx} {pins : List (Addr × Obj)} {σ : L2.St} {H : Hp} {s : Shared} {xs : List V} {its : List Value} {t' : Tok} (I : Inv X pins σ H s) (r : Vals xs its) (hz : xs.length ≤ sizeLine) :
    Inv X pins σ (upd H s.heap.objs.size (.frz { cls := .type "tuple", data := .seq its.toArray } (.tup xs))) { s with heap := s.heap.push { cls := .type "tuple", data := .seq its.toArray }, toks := t' } :=
  I.laid (t' := t') (fun b o e => Heap.get?_push_of_some _ e) (Nat.le_refl _) (show ObjOk X.prog X.w _ _ _ (.frz _ (.tup xs)) from ⟨Heap.get?_push_size _ rfl, hz, its, r, PyProof.Rows.IsTup.new _ _⟩)
theorem Post.val {w : W} {u : V} {Q : VK} (h : Post K cl Wx s0 r H Q (.ok w S)) (rel : Rel K cl r S H) (n : RV K r H w u) : Q u H := h r H u Ge.refl rel n
theorem Rel.lst (h : Rel K cl r S H) {n : Nat} {a : Addr} {xs : List W} (e : r n = some a) (g : S.get n = some (.lst xs)) : ∃ vs, H a = some (.lst vs) ∧ RVs K r H xs vs := by
  obtain ⟨o, e1, e2⟩ := h.node e g
  cases e2 with
  | lst q => exact ⟨_, e1, q⟩
theorem Rel.frz (h : Rel K cl r S H) {n : Nat} {a : Addr} {xs : List W} (e : r n = some a) (g : S.get n = some (.frz xs)) : ∃ o vs, H a = some (.frz o (.lst vs)) ∧ RVs K r H xs vs := by
  obtain ⟨o, e1, e2⟩ := h.node e g
  cases e2 with
  | frz q => exact ⟨_, _, e1, q⟩
theorem Rel.dct (h : Rel K cl r S H) {n : Nat} {a : Addr} {xs : List (Key × W)} (e : r n = some a) (g : S.get n = some (.dct false xs)) : ∃ vs, H a = some (.dK vs) ∧ RKV K r H xs vs := by
  obtain ⟨o, e1, e2⟩ := h.node e g
  cases e2 with
  | dct q => exact ⟨_, e1, q⟩
theorem Rel.dctR (h : Rel K cl r S H) {n : Nat} {a : Addr} {xs : List (Key × W)} {l : Bool} (e : r n = some a) (g : S.get n = some (.dct l xs)) : ∃ vs, Rd H a (.dK vs) ∧ RKV K r H xs vs := by
  obtain ⟨o, e1, e2⟩ := h.node e g
  cases e2 with
  | dct q => exact ⟨_, .inl e1, q⟩
  | dctL q => exact ⟨_, .inr ⟨_, e1⟩, q⟩
theorem Rel.ins (h : Rel K cl r S H) {n : Nat} {a : Addr} {c : Nm} {fs : List (Nm × W)} (e : r n = some a) (g : S.get n = some (.ins c fs)) : ∃ dx us, H a = some (.ins (He.ga K c.str) dx us) ∧ RFs K r H fs us ∧ c ∈ cl := by
  obtain ⟨o, e1, e2⟩ := h.node e g
  cases e2 with
  | ins m q => exact ⟨_, _, e1, q, m⟩
/-- a list, the script -/
theorem Rel.lstOf (h : Rel K cl r S H) {w : W} {u : V} {xs : List W} (q : RV K r H w u) (g : D.lstOf S w = some xs) : ∃ a vs, u = .ref a ∧ SqL K H a vs ∧ RVs K r H xs vs := by
  cases q with
  | ref e =>
    rename_i n a
    unfold D.lstOf at g
    dsimp only at g
    split at g
    · rename_i ys q
      cases g
      obtain ⟨vs, e1, e2⟩ := h.lst e q
      exact ⟨a, vs, rfl, SqL.of e1, e2⟩
    · rename_i ys q
      cases g
      obtain ⟨o, vs, e1, e2⟩ := h.frz e q
      exact ⟨a, vs, rfl, .inl (.inr ⟨o, e1⟩), e2⟩
    · cases g
  | _ => cases g
theorem Rel.seqOf (h : Rel K cl r S H) {w : W} {u : V} {xs : List W} (q : RV K r H w u) (g : D.seqOf S w = some xs) : ∃ a vs, u = .ref a ∧ (SqL K H a vs ∨ TupAt H a vs) ∧ RVs K r H xs vs := by
  cases q with
  | tup e hs =>
    cases g
    exact ⟨_, _, rfl, .inr e, hs⟩
  | ref e =>
    obtain ⟨a, vs, e1, e2, e3⟩ := h.lstOf (w := .ref _) (.ref e) (show D.lstOf S (.ref _) = some xs from g)
    exact ⟨a, vs, e1, .inl e2, e3⟩
  | _ => cases g
mutual
theorem dat_dp (h : Rel K cl r S H) : ∀ (k : Nat) (w : W) (d : PyData) (v : V), dat S k w = some d → RV K r H w v → Dp K H v d
  | k, .non, d, v, e, q => by
    rw [dat] at e; cases e; cases q; exact .non
  | k, .bl b, d, v, e, q => by
    rw [dat] at e; cases e; cases q; exact .bl b
  | k, .int b, d, v, e, q => by
    rw [dat] at e; cases e; cases q; exact .int b
  | k, .str b, d, v, e, q => by
    rw [dat] at e; cases e; cases q; exact .str b
  | k, .tup xs, d, v, e, q => by
    rw [dat] at e
    cases ex : dats S k xs with
    | none => rw [ex] at e; cases e
    | some ds =>
      rw [ex] at e; cases e
      cases q with
      | tup e1 hs => exact .tup e1.sq (dats_dp h k xs ds _ ex hs)
  | 0, .ref n, d, v, e, q => by
    rw [dat] at e; cases e
  | k + 1, .ref n, d, v, e, q => by
    rw [dat] at e
    split at e
    · rename_i xs g
      cases ex : dats S k xs with
      | none => rw [ex] at e; cases e
      | some ds =>
        rw [ex] at e; cases e
        cases q with
        | ref e1 =>
          obtain ⟨vs, e2, hs⟩ := h.lst e1 g
          exact .lst (SqL.of e2) (dats_dp h k xs ds _ ex hs)
    · rename_i xs g
      cases ex : dats S k xs with
      | none => rw [ex] at e; cases e
      | some ds =>
        rw [ex] at e; cases e
        cases q with
        | ref e1 =>
          obtain ⟨o, vs, e2, hs⟩ := h.frz e1 g
          exact .lst (.inl (.inr ⟨o, e2⟩)) (dats_dp h k xs ds _ ex hs)
    · cases e
termination_by k w => (k, sizeOf w)
theorem dats_dp (h : Rel K cl r S H) : ∀ (k : Nat) (ws : List W) (ds : List PyData) (vs : List V), dats S k ws = some ds → RVs K r H ws vs → DpAll K H vs ds
  | k, [], ds, vs, e, q => by
    rw [dats] at e; cases e; cases q; exact .nil
  | k, x :: xs, ds, vs, e, q => by
    rw [dats] at e
    cases ex : dat S k x with
    | none => rw [ex] at e; cases e
    | some d =>
      cases ey : dats S k xs with
      | none => rw [ex, ey] at e; cases e
      | some es =>
        rw [ex, ey] at e; cases e
        cases q with
        | cons q1 q2 => exact .cons (dat_dp h k x d _ ex q1) (dats_dp h k xs es _ ey q2)
termination_by k ws => (k, sizeOf ws)
end
theorem RV.key {w : W} {u : V} {k : Key} (q : RV K r H w u) (e : w.key = some k) : u = kV k := by
  cases q with
  | int i => cases e; rfl
  | str x => cases e; rfl
  | _ => cases e
theorem rkv_val {kvs : List (Key × W)} {us : List (Key × V)} (h : RKV K r H kvs us) (k : Key) : (∀ w, valW kvs k = some w → ∃ v, valV us k = some v ∧ RV K r H w v) ∧ (valW kvs k = none → valV us k = none) := by
  induction h with
  | nil => exact ⟨fun w e => (nomatch e), fun _ => rfl⟩
  | cons h t ih =>
    rename_i p q l1 l2
    by_cases e : p.1 = k
    · have e2 : q.1 = k := h.1 ▸ e
      rw [valV_pos e2]
      refine ⟨fun w g => ?_, fun g => ?_⟩
      · simp only [valW, if_pos e, Option.some.injEq] at g
        subst g
        exact ⟨_, rfl, h.2⟩
      · simp only [valW, if_pos e] at g
        cases g
    · have e2 : ¬ q.1 = k := fun z => e (h.1.trans z)
      rw [valV_neg e2]
      simp only [valW, if_neg e]
      exact ih
theorem rkv_dget {kvs : List (Key × W)} {us : List (Key × V)} (h : RKV K r H kvs us) (k : Key) : (valW kvs k).isSome = (valV us k).isSome := by
  obtain ⟨h1, h2⟩ := rkv_val h k
  cases e : valW kvs k with
  | none => rw [h2 e]; rfl
  | some w =>
    obtain ⟨v, e2, _⟩ := h1 w e
    rw [e2]; rfl
theorem rkv_any {kvs : List (Key × W)} {us : List (Key × V)} (h : RKV K r H kvs us) (k : Key) : (kvs.any fun kv => decide (kv.1 = k)) = us.any fun kv => decide (kv.1 = k) := by
  induction h with
  | nil => rfl
  | cons h t ih => rw [List.any_cons, List.any_cons, ih, h.1]
theorem RKV.append {xs ys : List (Key × W)} {us vs : List (Key × V)} (h : RKV K r H xs us) (h' : RKV K r H ys vs) : RKV K r H (xs ++ ys) (us ++ vs) := by
  induction h with
  | nil => exact h'
  | cons a b ih => exact .cons a ih
theorem rkv_put {kvs : List (Key × W)} {us : List (Key × V)} (h : RKV K r H kvs us) (k : Key) {w : W} {v : V} (q : RV K r H w v) : RKV K r H (putW kvs k w) (putK us k v) := by
  unfold putW putK
  rw [rkv_any h k]
  have hm : RKV K r H (kvs.map fun kv => if kv.1 = k then (kv.1, w) else kv) (us.map fun kv => if kv.1 = k then (kv.1, v) else kv) := by
    induction h with
    | nil => exact .nil
    | cons a b ih =>
      rw [List.map_cons, List.map_cons]
      refine .cons ?_ ih
      rename_i p q' _ _
      by_cases e : p.1 = k
      · rw [if_pos e, if_pos (show q'.1 = k from a.1 ▸ e)]
        exact ⟨a.1, q⟩
      · rw [if_neg e, if_neg (fun z => e (a.1.trans z))]
        exact a
  split
  · exact hm
  · exact h.append (.cons ⟨rfl, q⟩ .nil)
theorem rkv_drop {kvs : List (Key × W)} {us : List (Key × V)} (h : RKV K r H kvs us) (k : Key) : RKV K r H (dropW kvs k) (dropK us k) := by
  unfold dropK
  induction h with
  | nil => exact .nil
  | cons a b ih =>
    rename_i p q _ _
    by_cases e : p.1 = k
    · have e2 : q.1 = k := a.1 ▸ e
      simp only [dropW, if_pos e, List.filter_cons, e2, ne_eq, not_true_eq_false, decide_false, Bool.false_eq_true, if_false]
      exact ih
    · have e2 : ¬ q.1 = k := fun z => e (a.1.trans z)
      simp only [dropW, if_neg e, List.filter_cons, ne_eq, e2, not_false_eq_true, decide_true, if_true]
      exact .cons a ih
theorem rkv_merge {more : List (Key × W)} {ms : List (Key × V)} (h : RKV K r H more ms) : ∀ {kvs : List (Key × W)} {us : List (Key × V)}, RKV K r H kvs us → RKV K r H (mergeW kvs more) (mergeK us ms) := by
  unfold mergeW mergeK
  induction h with
  | nil => intro _ _ h; exact h
  | cons a b ih =>
    intro kvs us h
    rw [List.foldl_cons, List.foldl_cons, a.1]
    exact ih (rkv_put h _ a.2)
theorem Paired.len {α β : Type} {F : α → β → Prop} {xs : List α} {ys : List β} (h : Paired F xs ys) : xs.length = ys.length := Paired.length h
end
end D
end

section
set_option maxHeartbeats 1000000
/-! The layer's operators take what a run's operators tell. -/
namespace D
open PySem PySem.Spec PyProof.Rows L2

def boP : Bo → Operator
  | .add => .Add | .sub => .Sub | .mul => .Mult | .div => .FloorDiv | .mod => .Mod | .pow => .Pow
def coP : Co → CmpOp
  | .eq => .Eq | .ne => .NotEq | .lt => .Lt | .le => .LtE | .gt => .Gt | .ge => .GtE | .inn => .In | .nin => .NotIn | .is => .Is | .isn => .IsNot
section
variable (K : PySem.W.Frag) (cl : List Nm) (Wx : WX) (s0 : L2.St)
def rB (o : Bo) : R2 := fun u v H Q => ∃ r S x y, Rel K cl r S H ∧ RV K r H x u ∧ RV K r H y v ∧ Post K cl Wx s0 r H Q (binW o x y S)
def rC (o : Co) : R2 := fun u v H Q => ∃ r S x y, Rel K cl r S H ∧ RV K r H x u ∧ RV K r H y v ∧ Post K cl Wx s0 r H Q (cmpW o x y S)
def rI (K : PySem.W.Frag) (cl : List Nm) (Wx : WX) (s0 : L2.St) : R2 := fun u v H Q => ∃ r S x y, Rel K cl r S H ∧ RV K r H x u ∧ RV K r H y v ∧ Post K cl Wx s0 r H Q (itemW x y S)
def rSl : V → Option Int → Option Int → Hp → VK → Prop := fun u lo hi H Q => ∃ r S x, Rel K cl r S H ∧ RV K r H x u ∧ Post K cl Wx s0 r H Q (sliceW x lo hi S)
end
/-! tuples that are made: their objects are known -/
section
variable {X : Cx}
def rCat2 (K : PySem.W.Frag) : R2 := fun x y H Q => ∃ a b xs ys, x = .ref a ∧ y = .ref b ∧ SqT K H a xs ∧ SqT K H b ys ∧ xs.length + ys.length ≤ sizeLine ∧
  (xs = [] → Q (.ref b) H) ∧ (xs ≠ [] → ys = [] → Q (.ref a) H) ∧ (∀ p o, o.dict = none → H p = none → Q (.ref p) (upd H p (.frz o (.tup (xs ++ ys)))))
theorem op_cat2 : OpR X (binaryOp .Add) (rCat2 X.K) := by
  intro pins s σ H x y v u Q I rx ry ⟨a, b, xs, ys, ex, ey, ha, hb, hz, q0, q1, q2⟩
  subst ex ey
  cases rx; cases ry
  obtain ⟨i1, r1, p1, _⟩ := I.tuple ha
  obtain ⟨i2, r2, p2, _⟩ := I.tuple hb
  by_cases hx : xs = []
  · have e : i1 = [] := by rw [hx] at r1; cases r1; rfl
    rw [e] at p1
    exact cat_tup0 p1 p2 ⟨.ref _, H, I, rfl, q0 hx⟩
  · exact HT.cat_tup p1 p2 (fun z => hx (r1.nil_iff.mp z)) (fun z => ⟨.ref _, H, I, rfl, q1 hx (r2.nil_iff.mp z)⟩) (fun z => ⟨.ref _, _, tup_laid (t' := s.toks) I (r1.append r2) (by simpa using hz), rfl, q2 _ _ rfl (I.hok.fresh (Nat.le_refl _))⟩) (by rw [← r1.length, ← r2.length]; exact hz)
def rRep2 (K : PySem.W.Frag) : R2 := fun x y H Q => ∃ l k v, x = .ref l ∧ y = .int k ∧ SqT K H l [v] ∧ 2 ≤ k ∧ k ≤ 1000 ∧ ∀ p o, o.dict = none → H p = none → Q (.ref p) (upd H p (.frz o (.tup (List.replicate k.toNat [v]).flatten)))
theorem op_rep2 : OpR X (binaryOp .Mult) (rRep2 X.K) := by
  intro pins s σ H x y v u Q I rx ry ⟨l, k, z, ex, ey, hT, h1, h2, q⟩
  subst ex ey
  cases rx
  obtain ⟨t, e⟩ := ry
  subst e
  obtain ⟨its, r, ⟨⟨cls, dd, data, sl⟩, ho, hc, n, hd⟩, hs⟩ := I.tuple hT
  dsimp only at hc hd
  subst hc hd
  cases r with
  | cons r0 rr => cases rr with
    | nil =>
      rename_i z'
      have rr : Vals (List.replicate k.toNat [z]).flatten (List.replicate k.toNat [z']).flatten := Vals.rep (.cons r0 .nil) k.toNat
      have fl : (List.replicate k.toNat [z']).flatten.length ≤ sizeLine := by rw [PyProof.Rows.lm_len_rep_flat, sizeLine_eq, List.length_singleton]; omega
      have fl2 : (List.replicate k.toNat [z]).flatten.length ≤ sizeLine := by rw [rr.length]; exact fl
      have c4 : Builtin.Tuple.tupleTooMany ((([z'].toArray.size : Nat) : Int) * k) = false := by
        have e : ((([z'].toArray.size : Nat) : Int) * k) = k := by simp
        rw [e, Builtin.Tuple.tupleTooMany, sizeLine_eq]; exact decide_eq_false (by omega)
      have em : [z'].toArray.isEmpty = false := rfl
      have e1 : (decide (k < -(2 ^ 63)) || decide (k ≥ 2 ^ 63)) = false := by rw [Bool.or_eq_false_iff]; exact ⟨decide_eq_false (by omega), decide_eq_false (by omega)⟩
      have e2 : ([z'].toArray.isEmpty || k == 1) = false := by rw [em, Bool.false_or]; simpa using (by omega : k ≠ 1)
      have e3 : (decide (k ≤ 0) || [z'].toArray.isEmpty) = false := by rw [em, Bool.or_false]; exact decide_eq_false (by omega)
      have big : ¬ (([z'].toArray.size : Nat) : Int) * k > (2 ^ 63 - 1) / 8 := by simp; omega
      have go := tuple_mulW l [z'].toArray n dd sl k t e1 e2 e3 big c4 (by rw [size_rep, List.size_toArray]; exact fl)
      rw [size_rep] at go
      refine wpAny_binaryOp_repeat_ref (T := "tuple") (U := "int") (by decide) ⟨_, ho, rfl⟩ (fun s' => typeIs_int s' k t) noFill_tuple_mul F.fills_int_mul F.slot_int_rmul repeat_tuple F.slot_int_index.lookup (call_meets F.slot_int_rmul (typeIs_int s k t) F.entry_int_rmul (F.args_int_rmul_2 _ _) (int_rmul_tuple k t l [z'].toArray n dd sl) ⟨ho, rfl, ⟨_, ho, rfl⟩, ?_⟩)
      exact call_meets F.slot_tuple_mul ⟨_, ho, rfl⟩ F.entry_tuple_mul (F.args_tuple_mul_2 _ _) go ⟨ho, .ref _, _, tup_laid (t' := s.toks) I rr fl2, rfl, q _ _ rfl (I.hok.fresh (Nat.le_refl _))⟩
def rSl2 (K : PySem.W.Frag) : V → Option Int → Option Int → Hp → VK → Prop := fun x lo hi H Q => ∃ a xs, x = .ref a ∧ SqT K H a xs ∧
  (HT.sIx xs.length 0 lo = 0 ∧ HT.sIx xs.length xs.length hi = xs.length → Q (.ref a) H) ∧ (∀ p o, o.dict = none → H p = none → Q (.ref p) (upd H p (.frz o (.tup (cutV xs lo hi)))))
theorem sl_tup2 : SlR X (rSl2 X.K) := by
  intro pins s σ H x v vl vu lo hi sl Q I rx hs pl pu ⟨a, xs, ex, hx, q1, q2⟩
  subst ex
  cases rx
  obtain ⟨its, r, ht, hz⟩ := I.tuple hx
  have hlen : its.toArray.size = xs.length := by rw [List.size_toArray]; exact r.length.symm
  refine ⟨"tuple", _, PyProof.Rows.slot_tuple_getitem.lookup, ht.typeIs, ?_⟩
  by_cases hw : HT.sIx xs.length 0 lo = 0 ∧ HT.sIx xs.length xs.length hi = xs.length
  · exact getItem_tuple_whole ht hs pl pu (hlen.symm ▸ hw) ⟨.ref _, H, I, rfl, q1 hw⟩
  · refine HT.getItem_tuple_cut ht hs pl pu (hlen.symm ▸ hw) ?_ (hlen.symm ▸ hz)
    rw [hlen]
    exact ⟨.ref _, _, tup_laid (t' := s.toks) I ((r.drop _).take _) (Nat.le_trans (cutV_length xs lo hi) hz), rfl, q2 _ _ rfl (I.hok.fresh (Nat.le_refl _))⟩
/-- two tuples, one ahead of the other -/
def rLtD (K : PySem.W.Frag) : R2 := fun x y H Q => ∃ d e, Dp K H x d ∧ Dp K H y e ∧ PySem.W.alike d e = true ∧ d ≠ .none ∧ d.depth ≤ 9 ∧ Q (.bl (PySem.W.dataLt d e)) H
theorem op_ltD (hu : X.A.units + 65 < cLine) : OpR X (compareOp .Lt) (rLtD X.K) := by
  intro pins s σ H x y v u Q I rx ry ⟨d, e, hd, he, ha, hn, hl, q⟩
  obtain ⟨as, r1⟩ := Dp.reads I d x v hd rx
  obtain ⟨bs, r2⟩ := Dp.reads I e y u he ry
  exact PySem.W.lt_data r1 r2 ha hn (by have := Nat.min_le_left d.depth e.depth; omega) ⟨.bl _, H, I, rfl, q⟩
end
section
variable {X : Cx} {cl : List Nm} {Wx : WX} {s0 : L2.St}
theorem op_bin (o : Bo) : OpR X (binaryOp (boP o)) (rB X.K cl Wx s0 o) := by
  intro pins s σ H u v uv vv Q I ru rv h
  obtain ⟨r, S, x, y, rel, qx, qy, p⟩ := h
  cases o with
  | add =>
    cases qx with
    | int i => cases qy with
      | int j => exact op_add pins s σ H _ _ uv vv Q I ru rv ⟨i, j, rfl, rfl, p.val rel (.int _)⟩
      | _ => exact False.elim p
    | str i => cases qy with
      | str j =>
        simp only [binW] at p
        split at p
        · rename_i hl
          exact op_add_str pins s σ H _ _ uv vv Q I ru rv ⟨i, j, rfl, rfl, lim_le hl, p.val rel (.str _)⟩
        · exact False.elim p
      | _ => exact False.elim p
    | @tup xs a vs e1 h1 => cases qy with
      | @tup ys b us e2 h2 =>
        simp only [binW] at p
        split at p
        · rename_i hl
          rw [h1.length, h2.length] at hl
          refine op_cat2 pins s σ H _ _ uv vv Q I ru rv ⟨a, b, vs, us, rfl, rfl, e1.sq, e2.sq, lim_le hl, fun z => ?_, fun _ z => ?_, p.tup rel (h1.append h2)⟩
          · subst z; cases h1
            exact p.val rel (.tup e2 h2)
          · subst z; cases h2
            rw [List.append_nil] at p
            exact p.val rel (.tup e1 h1)
        · exact False.elim p
      | _ => exact False.elim p
    | @ref n a e1 => cases qy with
      | @ref m b e2 =>
        simp only [binW] at p
        split at p
        · rename_i xs ys g1 g2
          split at p
          · rename_i hl
            obtain ⟨vs, a1, h1⟩ := rel.lst e1 g1
            obtain ⟨us, a2, h2⟩ := rel.lst e2 g2
            rw [h1.length, h2.length] at hl
            exact op_cat pins s σ H _ _ uv vv Q I ru rv ⟨a, b, vs, us, rfl, rfl, a1, a2, lim_le hl, p.mk rel (.lst (h1.append h2))⟩
          · exact False.elim p
        · exact False.elim p
      | _ => exact False.elim p
    | _ => exact False.elim p
  | sub =>
    cases qx with
    | int i => cases qy with
      | int j => exact op_sub pins s σ H _ _ uv vv Q I ru rv ⟨i, j, rfl, rfl, p.val rel (.int _)⟩
      | _ => exact False.elim p
    | _ => exact False.elim p
  | mul =>
    cases qx with
    | int i => cases qy with
      | int j =>
        simp only [binW] at p
        split at p
        · rename_i hl
          exact op_mul pins s σ H _ _ uv vv Q I ru rv ⟨i, j, rfl, rfl, hl, p.val rel (.int _)⟩
        · exact False.elim p
      | _ => exact False.elim p
    | @tup xs a vs e1 h1 => cases qy with
      | int k =>
        simp only [binW] at p
        split at p
        · rename_i hl
          obtain ⟨l1, l2, l3⟩ := hl
          have l4 := h1.length
          rw [l1] at l4
          cases vs with
          | nil => cases l4
          | cons v0 vr => cases vr with
            | cons _ _ => cases l4
            | nil => exact op_rep2 pins s σ H _ _ uv vv Q I ru rv ⟨a, k, v0, rfl, rfl, e1.sq, l2, l3, p.tup rel (h1.rep _)⟩
        · exact False.elim p
      | _ => exact False.elim p
    | @ref n a e1 => cases qy with
      | int k =>
        simp only [binW] at p
        split at p
        · rename_i xs g1
          split at p
          · rename_i hl
            obtain ⟨l1, l2, l3⟩ := hl
            obtain ⟨vs, a1, h1⟩ := rel.lst e1 g1
            rw [h1.length] at l3
            have l4 : vs.length * k.toNat ≤ 1000 * 1000 := Nat.mul_le_mul l3 (by omega)
            have l5 : vs.length * k.toNat ≤ sizeLine := by rw [sizeLine_eq]; omega
            exact op_rep pins s σ H _ _ uv vv Q I ru rv ⟨a, k, vs, rfl, rfl, a1, by omega, by omega, l5, p.mk rel (.lst (h1.rep _))⟩
          · exact False.elim p
        · exact False.elim p
      | _ => exact False.elim p
    | _ => exact False.elim p
  | div =>
    cases qx with
    | int i => cases qy with
      | int j =>
        simp only [binW] at p
        split at p
        · rename_i hl
          exact op_fdivW pins s σ H _ _ uv vv Q I ru rv ⟨i, j, rfl, rfl, wide_div (i := i) (b := 100) hl.1 (by omega) (by decide) (by decide), p.val rel (.int _)⟩
        · exact False.elim p
      | _ => exact False.elim p
    | _ => exact False.elim p
  | mod =>
    cases qx with
    | int i => cases qy with
      | int j =>
        simp only [binW] at p
        split at p
        · rename_i hl
          exact op_mod pins s σ H _ _ uv vv Q I ru rv ⟨i, j, rfl, rfl, hl, p.val rel (.int _)⟩
        · exact False.elim p
      | _ => exact False.elim p
    | _ => exact False.elim p
  | pow =>
    cases qx with
    | int i => cases qy with
      | int j =>
        simp only [binW] at p
        split at p
        · rename_i hl
          exact op_pow pins s σ H _ _ uv vv Q I ru rv ⟨i, j, rfl, rfl, ⟨hl.1, by omega, by omega⟩, p.val rel (.int _)⟩
        · exact False.elim p
      | _ => exact False.elim p
    | _ => exact False.elim p

theorem post_bool {r : Rho} {S : Sto} {H : Hp} {Q : VK} {K : PySem.W.Frag} {o : Option Bool} (p : Post K cl Wx s0 r H Q (boolR o S)) (rel : Rel K cl r S H) : ∃ b, o = some b ∧ Q (.bl b) H := by
  cases o with
  | none => exact False.elim p
  | some b => exact ⟨b, rfl, p.val rel (.bl b)⟩
theorem isN_dec {K : PySem.W.Frag} {r : Rho} {H : Hp} {x : W} {u : V} (q : RV K r H x u) : decide (u = .non) = isN x := by
  cases q <;> rfl
theorem isN_non {K : PySem.W.Frag} {r : Rho} {H : Hp} {x : W} {u : V} (q : RV K r H x u) (h : isN x = true) : u = .non := by
  cases q <;> first | rfl | cases h
/-- x in c -/
theorem in_ok (hu : X.A.units + 65 < cLine) {pins : List (Addr × Obj)} {s : Shared} {σ : L2.St} {H : Hp} {u v : V} {uv vv : Value} {Q : VK} {r : Rho} {S : Sto} {x y : W} {b : Bool} (I : Inv X pins σ H s) (ru : RelV u uv) (rv : RelV v vv)
    (rel : Rel X.K cl r S H) (qx : RV X.K r H x u) (qy : RV X.K r H y v) (e : inW S x y = some b) :
    (Q (.bl b) H → wpAny (model X.prog X.w) X.A (compareOp .In uv vv) (EP X pins σ Q) X.xe s) ∧ (Q (.bl (!b)) H → wpAny (model X.prog X.w) X.A (compareOp .NotIn uv vv) (EP X pins σ Q) X.xe s) := by
  cases qy with
  | @tup ys a vs e1 h1 =>
    simp only [inW] at e
    split at e
    · rename_i hc
      rw [Bool.and_eq_true] at hc
      obtain ⟨ex, fx⟩ := qx.scal hc.1
      obtain ⟨ey, fy⟩ := h1.scal hc.2
      cases e
      rw [ex] at fx ru
      refine ⟨fun q => op_in_seq pins s σ H _ _ uv vv Q I ru rv ⟨a, vs, rfl, .inr (e1.sq), fx, fy, ?_⟩, fun q => op_notIn_seq pins s σ H _ _ uv vv Q I ru rv ⟨a, vs, rfl, .inr (e1.sq), fx, fy, ?_⟩⟩
      · rw [ey]; exact q
      · rw [ey]; exact q
    · cases e
  | str z =>
    cases qx with
    | str c =>
      simp only [inW] at e
      split at e
      · rename_i hl
        split at e
        · rename_i s' g
          cases e
          have hc : c = ⟨#[s']⟩ := by
            obtain ⟨cps⟩ := c
            have h1 : cps.size = 1 := hl
            have h2 : cps[0]? = some s' := g
            congr 1
            apply Array.ext
            · simpa using h1
            · intro i h3 h4
              have : i = 0 := by simpa using h4
              subst this
              have := Array.getElem?_eq_getElem h3
              rw [h2] at this
              simpa using (Option.some.inj this).symm
          subst hc
          exact ⟨fun q => op_in_sign pins s σ H _ _ uv vv Q I ru rv ⟨s', z, rfl, rfl, q⟩, fun q => op_notIn_sign pins s σ H _ _ uv vv Q I ru rv ⟨s', z, rfl, rfl, q⟩⟩
        · cases e
      · cases e
    | _ => simp only [inW] at e; cases e
  | @ref n a e1 =>
    simp only [inW] at e
    split at e
    · rename_i ys g
      obtain ⟨vs, a1, h1⟩ := rel.lst e1 g
      split at e
      · rename_i hc
        rw [Bool.and_eq_true] at hc
        obtain ⟨ex, fx⟩ := qx.scal hc.1
        obtain ⟨ey, fy⟩ := h1.scal hc.2
        cases e
        rw [ex] at fx ru
        refine ⟨fun q => op_in_seq pins s σ H _ _ uv vv Q I ru rv ⟨a, vs, rfl, .inl (SqL.of a1), fx, fy, ?_⟩, fun q => op_notIn_seq pins s σ H _ _ uv vv Q I ru rv ⟨a, vs, rfl, .inl (SqL.of a1), fx, fy, ?_⟩⟩
        · rw [ey]; exact q
        · rw [ey]; exact q
      · split at e
        · rename_i d ds g1 g2
          split at e
          · rename_i hs
            rw [Bool.and_eq_true] at hs
            cases e
            have d1 := dat_dp rel _ _ _ _ g1 qx
            have d2 : Dp X.K H (.ref a) (.list ds) := .lst (SqL.of a1) (dats_dp rel _ _ _ _ g2 h1)
            exact ⟨fun q => op_inD hu pins s σ H _ _ uv vv Q I ru rv ⟨d, ds, d1, d2, hs.1, hs.2, q⟩, fun q => op_notInD hu pins s σ H _ _ uv vv Q I ru rv ⟨d, ds, d1, d2, hs.1, hs.2, q⟩⟩
          · cases e
        · cases e
    · rename_i l kvs g
      split at e
      · rename_i k hk
        cases e
        obtain ⟨us, a1, h1⟩ := rel.dctR e1 g
        have ek := qx.key hk
        subst ek
        have gg : DGet H a (kV k) (valV us k) := .inl ⟨us, k, a1, rfl, rfl⟩
        have es := rkv_dget h1 k
        cases (show vv = Value.ref a from rv)
        refine ⟨fun q => d_in (by omega) I gg ru fun s3 I3 => ⟨.bl _, H, I3, rfl, ?_⟩, fun q => d_notIn (by omega) I gg ru fun s3 I3 => ⟨.bl _, H, I3, rfl, ?_⟩⟩
        · rw [← es]; exact q
        · rw [← es]; exact q
      · cases e
    · cases e
  | _ => simp only [inW] at e; cases e
theorem eq_ok (hu : X.A.units + 64 < cLine) {pins : List (Addr × Obj)} {s : Shared} {σ : L2.St} {H : Hp} {u v : V} {uv vv : Value} {Q : VK} {r : Rho} {S : Sto} {x y : W} {b : Bool} (I : Inv X pins σ H s) (ru : RelV u uv) (rv : RelV v vv)
    (rel : Rel X.K cl r S H) (qx : RV X.K r H x u) (qy : RV X.K r H y v) (e : eqW S x y = some b) :
    (Q (.bl b) H → wpAny (model X.prog X.w) X.A (compareOp .Eq uv vv) (EP X pins σ Q) X.xe s) ∧ (Q (.bl (!b)) H → wpAny (model X.prog X.w) X.A (compareOp .NotEq uv vv) (EP X pins σ Q) X.xe s) := by
  unfold eqW at e
  split at e
  · rename_i hc
    simp only [Bool.and_eq_true] at hc
    obtain ⟨ex, _⟩ := qx.scal hc.1.1
    obtain ⟨ey, _⟩ := qy.scal hc.1.2
    subst ex ey
    cases e
    exact ⟨fun q => op_eq pins s σ H _ _ uv vv Q I ru rv ⟨hc.2, q⟩, fun q => op_ne pins s σ H _ _ uv vv Q I ru rv ⟨hc.2, q⟩⟩
  · split at e
    · rename_i d d' g1 g2
      split at e
      · rename_i hs
        rw [Bool.and_eq_true] at hs
        cases e
        have d1 := dat_dp rel _ _ _ _ g1 qx
        have d2 := dat_dp rel _ _ _ _ g2 qy
        exact ⟨fun q => op_eqD hu pins s σ H _ _ uv vv Q I ru rv ⟨d, d', d1, d2, hs.1, hs.2, q⟩, fun q => op_neD hu pins s σ H _ _ uv vv Q I ru rv ⟨d, d', d1, d2, hs.1, hs.2, q⟩⟩
      · cases e
    · cases e
theorem op_cmp (hu : X.A.units + 65 < cLine) (o : Co) : OpR X (compareOp (coP o)) (rC X.K cl Wx s0 o) := by
  intro pins s σ H u v uv vv Q I ru rv h
  obtain ⟨r, S, x, y, rel, qx, qy, p⟩ := h
  cases o with
  | eq =>
    obtain ⟨b, e, q⟩ := post_bool p rel
    exact (eq_ok (by omega) I ru rv rel qx qy e).1 q
  | ne =>
    obtain ⟨b, e, q⟩ := post_bool p rel
    cases e' : eqW S x y with
    | none => rw [e'] at e; cases e
    | some b' =>
      rw [e'] at e
      have eb : (!b') = b := by simpa using e
      subst eb
      exact (eq_ok (by omega) I ru rv rel qx qy e').2 q
  | inn =>
    obtain ⟨b, e, q⟩ := post_bool p rel
    exact (in_ok hu I ru rv rel qx qy e).1 q
  | nin =>
    obtain ⟨b, e, q⟩ := post_bool p rel
    cases e' : inW S x y with
    | none => rw [e'] at e; cases e
    | some b' =>
      rw [e'] at e
      have eb : (!b') = b := by simpa using e
      subst eb
      exact (in_ok hu I ru rv rel qx qy e').2 q
  | is =>
    simp only [cmpW] at p
    split at p
    · rename_i hn
      have e := isN_non qy hn
      subst e
      refine op_isN pins s σ H _ _ uv vv Q I ru rv ⟨rfl, ?_⟩
      rw [isN_dec qx]
      exact p.val rel (.bl _)
    · exact False.elim p
  | isn =>
    simp only [cmpW] at p
    split at p
    · rename_i hn
      have e := isN_non qy hn
      subst e
      refine op_notN pins s σ H _ _ uv vv Q I ru rv ⟨rfl, ?_⟩
      rw [isN_dec qx]
      exact p.val rel (.bl _)
    · exact False.elim p
  | lt =>
    cases qx with
    | int i => cases qy with
      | int j => exact op_lt pins s σ H _ _ uv vv Q I ru rv ⟨i, j, rfl, rfl, p.val rel (.bl _)⟩
      | _ => exact False.elim p
    | tup e1 h1 => cases qy with
      | tup e2 h2 =>
        obtain ⟨b, e, q⟩ := post_bool (show Post X.K cl Wx s0 r H Q (boolR (ltD S (.tup _) (.tup _)) S) from p) rel
        unfold ltD at e
        split at e
        · rename_i ds es g1 g2
          split at e
          · rename_i hs
            rw [Bool.and_eq_true] at hs
            cases e
            exact op_ltD hu pins s σ H _ _ uv vv Q I ru rv ⟨_, _, dat_dp rel _ _ _ _ g1 (.tup e1 h1), dat_dp rel _ _ _ _ g2 (.tup e2 h2), hs.1, (fun z => by cases z), of_decide_eq_true hs.2, q⟩
          · cases e
        · cases e
      | _ => exact False.elim p
    | _ => exact False.elim p
  | le =>
    cases qx with
    | int i => cases qy with
      | int j => exact op_le pins s σ H _ _ uv vv Q I ru rv ⟨i, j, rfl, rfl, p.val rel (.bl _)⟩
      | _ => exact False.elim p
    | _ => exact False.elim p
  | gt =>
    cases qx with
    | int i => cases qy with
      | int j => exact op_gt pins s σ H _ _ uv vv Q I ru rv ⟨i, j, rfl, rfl, p.val rel (.bl _)⟩
      | _ => exact False.elim p
    | _ => exact False.elim p
  | ge =>
    cases qx with
    | int i => cases qy with
      | int j => exact op_ge pins s σ H _ _ uv vv Q I ru rv ⟨i, j, rfl, rfl, p.val rel (.bl _)⟩
      | _ => exact False.elim p
    | _ => exact False.elim p
theorem RVs.atI {K : PySem.W.Frag} {r : Rho} {H : Hp} {xs : List W} {vs : List V} {i : Int} {x : W} (h : RVs K r H xs vs) (e : L2.atI xs i = some x) : ∃ v, L2.atI vs i = some v ∧ RV K r H x v := by
  unfold L2.atI at e ⊢
  rw [← h.length]
  cases q : ixN xs.length i with
  | none => rw [q] at e; cases e
  | some j =>
    rw [q] at e
    exact h.get (show xs[j]? = some x from e)
theorem ix_ok (hu : X.A.units + 1 < cLine) : IxR X (rI X.K cl Wx s0) := by
  intro value slice pins s σ H u v uv vv Q I ru rv h hs
  obtain ⟨r, S, x, y, rel, qx, qy, p⟩ := h
  cases qx with
  | @tup xs a vs e1 h1 => cases qy with
    | int k =>
      simp only [itemW] at p
      split at p
      · rename_i x g
        obtain ⟨v, g2, rv2⟩ := h1.atI g
        exact ix_tup value slice pins s σ H _ _ uv vv Q I ru rv ⟨a, vs, k, v, rfl, rfl, e1.sq, g2, p.val rel rv2⟩ hs
      · exact False.elim p
    | _ => exact False.elim p
  | str z => cases qy with
    | int k =>
      simp only [itemW] at p
      split at p
      · rename_i hl
        split at p
        · rename_i c g
          exact ix_str value slice pins s σ H _ _ uv vv Q I ru rv ⟨z, k, c, rfl, rfl, lim_le hl, g, p.val rel (.str _)⟩ hs
        · exact False.elim p
      · exact False.elim p
    | _ => exact False.elim p
  | @ref n a e1 =>
    simp only [itemW] at p
    split at p
    · rename_i xs g
      obtain ⟨vs, a1, h1⟩ := rel.lst e1 g
      split at p
      · rename_i k
        split at p
        · rename_i x g
          obtain ⟨v, g2, rv2⟩ := h1.atI g
          cases qy
          exact ix_list value slice pins s σ H _ _ uv vv Q I ru rv ⟨a, vs, k, v, rfl, rfl, SqL.of a1, g2, p.val rel rv2⟩ hs
        · exact False.elim p
      · exact False.elim p
    · rename_i l kvs g
      obtain ⟨us, a1, h1⟩ := rel.dctR e1 g
      split at p
      · rename_i k hk
        split at p
        · rename_i x g
          obtain ⟨v', g2, rv2⟩ := (rkv_val h1 k).1 x g
          have ek := qy.key hk
          subst ek
          cases (show uv = Value.ref a from ru)
          have gg : DGet H a (kV k) (some v') := .inl ⟨us, k, a1, rfl, g2.symm⟩
          unfold subscriptTail
          refine wpAny_bind ?_
          rw [getitemInPython_of_ne (dict_typeIs I gg).not_modules]
          refine wpAny_bind (wpAny_specialOf (dict_typeIs I gg) PySem.F.slot_dict_getitem.lookup ?_)
          have fin : wpAny (model X.prog X.w) X.A (subscripted slice false (.ref a) vv) (fun r s₃ => wpAny (model X.prog X.w) X.A (letTemporaryGo value (.ref a) r >>= fun _ => pure r) (EP X pins σ Q) X.xe s₃) X.xe s := by
            rw [hs]
            exact wpAny_operating (d_getItem hu I gg rv fun w' s3 I3 rw' => wpAny_bind (wpAny_letTemporaryGo (wpAny_pure ⟨v', H, I3, rw', p.val rel rv2⟩)))
          first
            | exact wpAny_pure (wpAny_bind fin)
            | exact wpAny_bind (wpAny_pure (wpAny_bind fin))
            | exact wpAny_bind fin
        · exact False.elim p
      · exact False.elim p
    · exact False.elim p
  | _ => exact False.elim p
theorem cutW_rvs {K : PySem.W.Frag} {r : Rho} {H : Hp} {xs : List W} {vs : List V} (h : RVs K r H xs vs) (lo hi : Option Int) : RVs K r H (cutW xs lo hi) (cutV vs lo hi) := by
  unfold cutW cutV
  rw [h.length]
  exact (h.drop _).take _
theorem sl_ok : SlR X (rSl X.K cl Wx s0) := by
  intro pins s σ H u v vl vu lo hi sl Q I ru hsl pl pu h
  obtain ⟨r, S, x, rel, qx, p⟩ := h
  cases qx with
  | @tup xs a vs e1 h1 =>
    refine sl_tup2 pins s σ H _ v vl vu lo hi sl Q I ru hsl pl pu ⟨a, vs, rfl, e1.sq, fun z => ?_, Post.tup p rel (cutW_rvs h1 lo hi)⟩
    have e : cutV vs lo hi = vs := by
      unfold cutV
      rw [z.1, z.2]
      simp
    refine Post.val p rel (.tup (vs := vs) e1 ?_)
    have := cutW_rvs h1 lo hi
    rw [e] at this
    exact this
  | str z =>
    simp only [sliceW] at p
    split at p
    · rename_i hl
      exact sl_str pins s σ H _ v vl vu lo hi sl Q I ru hsl pl pu ⟨z, rfl, lim_le hl, p.val rel (.str _)⟩
    · exact False.elim p
  | @ref n a e1 =>
    simp only [sliceW] at p
    split at p
    · rename_i xs g
      obtain ⟨vs, a1, h1⟩ := rel.lst e1 g
      exact sl_list pins s σ H _ v vl vu lo hi sl Q I ru hsl pl pu ⟨a, vs, rfl, SqL.of a1, p.mk rel (.lst (cutW_rvs h1 lo hi))⟩
    · exact False.elim p
  | _ => exact False.elim p
end
end D
end

section
set_option maxHeartbeats 1000000
/-! What a text must have, and that it is the text that is meant. -/
namespace D
open PySem PySem.Spec PyProof.Rows L2

/-- what is known of a text: its defs, its classes, the fields of their instances, numbers, words, built-in names that stand for themselves, refusals -/
structure Fx where
  T : Tab
  fns : List Fk
  cl : List Nm
  fields : List Nm
  ic : List (Nm × Int)
  wc : List (Nm × Nm)
  free : List Str
  exc : List Nm

def fkAt : Fk → Str × Option Str
  | .fn f => (f.str, none)
  | .me c m => (c.str, some m.str)

def vis (sc : Scope) (x : Str) : Bool := match sc.names.lookup x with
  | some .local => true
  | some .cell => true
  | some .free => true
  | _ => false
def glo (sc : Scope) (x : Str) : Bool := match sc.names.lookup x with
  | some .globalImplicit => true
  | _ => false
def locB (sc : Scope) (x : Str) : Bool := match sc.names.lookup x with
  | some .local => true
  | some .cell => true
  | _ => false
def lcl (sc : Scope) (x : Str) : Bool := match sc.names.lookup x with
  | some .local => true
  | _ => false
def noDebug (x : Str) : Bool := !(x == ("__debug__" : Str))
def noOdd (x : Str) : Bool := !(x == ("__debug__" : Str)) && !(x == ("__classdict__" : Str))
def freeB (F : Fx) (sc : Scope) (x y : Str) : Bool := decide (x = y) && glo sc x && F.free.contains x
/-- neither a star nor a slice -/
def plainE : Expr → Bool
  | .Starred .. => false
  | .Slice .. => false
  | _ => true
def noComp : Expr → Bool
  | .ListComp .. => false
  | .SetComp .. => false
  | .DictComp .. => false
  | _ => true
def noSet : Expr → Bool
  | .Set .. => false
  | _ => true
/-- not a call without arguments of a name -/
def noSup : Expr → Bool
  | .Call (.Name _ _) [] [] _ => false
  | _ => true
def opB (o : Bo) : Operator → Bool := fun p => decide (boP o = p)
def coB (o : Co) : CmpOp → Bool := fun p => decide (coP o = p)
def tyS : Ty → String
  | .int => "int" | .bool => "bool" | .str => "str" | .tuple => "tuple" | .list => "list"
/-- a target's names -/
def tgt (b : Bool) (N : List Str) (sc : Scope) : List Nat → List Expr → Bool
  | [], [] => true
  | i :: is, .Name x _ :: ts => decide (N[i]? = some x) && (if b then lcl sc x else locB sc x) && tgt b N sc is ts
  | _, _ => false
def tgt1 (b : Bool) (N : List Str) (sc : Scope) (xs : List Nat) (one : Bool) (e : Expr) : Bool := if one then (match e with
    | .Name _ _ => tgt b N sc xs [e]
    | _ => false) else (match e with
    | .Tuple ts _ _ => tgt b N sc xs ts
    | _ => false)
/-- a comprehension's own names with their places -/
def ownOf (N : List Str) (xs : List Nat) : List (Str × Nat) := xs.filterMap fun i => (N[i]?).map fun x => (x, i)
def bmS : Bm → String
  | .append => "append" | .extend => "extend" | .pop => "pop" | .insert => "insert" | .remove => "remove" | .clear => "clear" | .count => "count" | .index => "index" | .get => "get" | .update => "update" | .split => "split" | .join => "join"
def biS : Bi → String
  | .len => "len" | .list => "list" | .tuple => "tuple" | .dict => "dict" | .sorted => "sorted" | .sortset => "sorted" | .sum => "sum" | .sum0 => "sum" | .min1 => "min" | .min2 => "min" | .max1 => "max" | .max2 => "max" | .int => "int" | .str => "str" | .lrng1 => "list" | .lrng2 => "list"
/-- how many arguments -/
def biN : Bi → Nat
  | .min2 => 2 | .max2 => 2 | .sum0 => 2 | _ => 1
def bmN : Bm → List Nat
  | .append => [1] | .extend => [1] | .pop => [1] | .insert => [2] | .remove => [1] | .clear => [0] | .count => [1] | .index => [1] | .get => [2] | .update => [1] | .split => [1] | .join => [1]
def fuse : Bi → Bool
  | .sortset => true | .lrng1 => true | .lrng2 => true | .sum0 => true | _ => false
/-- what stands within -/
def inS : Bi → String
  | .lrng1 => "range" | .lrng2 => "range" | _ => "set"
def inN : Bi → Nat
  | .lrng2 => 2 | _ => 1
/-- that it is covered -/
def inOk : Bi → Bool
  | .lrng1 => true | .lrng2 => true | _ => false

/-- a display's keys and values in turn -/
def zipKV : List (Option Expr) → List Expr → List Expr
  | some k :: ks, v :: vs => k :: v :: zipKV ks vs
  | _, _ => []
abbrev Ck := List Expr → Bool
def cVar (N : List Str) (sc : Scope) (i : Nat) : Ck
  | [.Name x _] => decide (N[i]? = some x) && vis sc x && noOdd x
  | _ => false
def cInt (i : Int) : Ck
  | [.Constant (.int j) _ _] => decide (i = j)
  | _ => false
def cBl (b : Bool) : Ck
  | [.Constant (.bool j) _ _] => b == j
  | _ => false
def cNon : Ck
  | [.Constant .none _ _] => true
  | _ => false
def cStr (n : Nm) : Ck
  | [.Constant (.str x) _ _] => decide (n.str = x)
  | _ => false
/-- a module's name -/
def cGlo (sc : Scope) (n : Nm) (k : Bool) : Ck
  | [.Name x _] => decide (n.str = x) && glo sc x && noDebug x && k
  | _ => false
def cBin (o : Bo) (f g : Ck) : Ck
  | [.BinOp l p r _] => opB o p && f [l] && g [r]
  | _ => false
def cUn (o : UnaryOp) (f : Ck) : Ck
  | [.UnaryOp p x _] => decide (p = o) && f [x]
  | _ => false
def cBool (o : BoolOp) (f g : Ck) : Ck
  | [.BoolOp p (x :: y :: r) q] => decide (p = o) && f [x] && (match r with
    | [] => g [y]
    | z :: r => g [.BoolOp o (y :: z :: r) q])
  | _ => false
def cCmp (o : Co) (f g : Ck) : Ck
  | [.Compare x [p] [y] _] => coB o p && noSet y && f [x] && g [y]
  | _ => false
def cChain (o o' : Co) (f g k : Ck) : Ck
  | [.Compare x [p, p'] [y, z] _] => coB o p && coB o' p' && noSet z && f [x] && g [y] && k [z]
  | _ => false
def cIf (f g k : Ck) : Ck
  | [.IfExp x y z _] => f [x] && g [y] && k [z]
  | _ => false
/-- a call of a module's name -/
def cCall (sc : Scope) (n : Nm) (k : Bool) (g : Ck) : Ck
  | [.Call (.Name x _) es [] _] => decide (n.str = x) && glo sc x && noDebug x && k && g es
  | _ => false
def cMeth (m : Str) (k : Nat → Bool) (f g : Ck) : Ck
  | [.Call (.Attribute x y p) es [] q] => decide (m = y) && noSup x && decide (p.endLine = q.line) && k es.length && f [x] && g es
  | _ => false
def cBi (F : Fx) (sc : Scope) (n : Str) (k : Nat → Bool) (g : Ck) : Ck
  | [.Call (.Name x _) es [] _] => freeB F sc x n && k es.length && g es
  | _ => false
def cBi2 (F : Fx) (sc : Scope) (f : Bi) (a : Bool) (g : Ck) : Ck := cBi F sc (biS f) (fun n => if fuse f then inOk f && decide (n = 1) else a && decide (n = biN f)) (if fuse f then cBi F sc (inS f) (fun n => a && decide (n = inN f)) g else g)
def cAttr (n : Str) (k : Bool) (f : Ck) : Ck
  | [.Attribute x y _] => decide (n = y) && noSup x && k && f [x]
  | _ => false
def cIx (f g : Ck) : Ck
  | [.Subscript x y _] => plainE y && f [x] && g [y]
  | _ => false
def optL : Option Expr → List Expr
  | none => []
  | some e => [e]
def cSl (f g k : Ck) : Ck
  | [.Subscript x (.Slice l h none _) _] => f [x] && g (optL l) && k (optL h)
  | _ => false
def cRev (f : Ck) : Ck
  | [.Subscript x (.Slice none none (some (.UnaryOp .USub (.Constant (.int 1) _ _) _)) _) _] => f [x]
  | _ => false
def cTup (f : Ck) : Ck
  | [.Tuple xs _ _] => f xs
  | _ => false
def cLst (f : Ck) : Ck
  | [.List xs _] => f xs
  | _ => false
def cDct (f : Ck) : Ck
  | [.Dict ks vs _] => ks.all (·.isSome) && decide (ks.length = vs.length) && decide (ks.length ≤ 15) && f (zipKV ks vs)
  | _ => false
def cLc (N : List Str) (sc : Scope) (xs : List Nat) (one : Bool) (f : Ck) (g k : Scope → Ck) : Ck
  | [.ListComp e [⟨t, i, ifs, 0⟩] scope _] => noSet i && f [i] && blkC N sc scope (ownOf N xs) && decide ((ownOf N xs).map (·.2) = xs) && tgt1 true N (relS scope sc) xs one t && g (relS scope sc) [e] && k (relS scope sc) ifs && decide (ifs.length ≤ 1)
  | _ => false
def cIsi (F : Fx) (sc : Scope) (t : Str) (f : Ck) : Ck
  | [.Call (.Name x _) [y, .Name z _] [] _] => freeB F sc x "isinstance" && freeB F sc z t && plainE y && f [y]
  | _ => false
def cNil : Ck
  | [] => true
  | _ => false
def cCons (f g : Ck) : Ck
  | e :: es => plainE e && f [e] && g es
  | _ => false
def cKv (f g k : Ck) : Ck
  | x :: y :: es => f [x] && g [y] && k es
  | _ => false
def one1 (n : Nat) : Bool := decide (n = 1)
/-- an expression, one that is walked, arguments -/
inductive Md where
  | e | i | a
def Md.isI : Md → Bool
  | .i => true
  | _ => false
def Md.isA : Md → Bool
  | .a => true
  | _ => false
def isArgs : E → Bool
  | .nil => true
  | .cons _ r => isArgs r
  | _ => false
def argN : E → Nat
  | .cons _ r => argN r + 1
  | _ => 0
def isKv : E → Bool
  | .nil => true
  | .kv _ _ r => isKv r
  | _ => false
def ifNo : E → Ck → Ck
  | .no, _ => cNil
  | _, f => f
/-- that an expression is the one that is meant; m: it is walked by a loop -/
def chk (F : Fx) (N : List Str) : E → Md → Scope → Ck
  | .var i, _, sc => cVar N sc i
  | .int i, _, _ => cInt i
  | .bl b, _, _ => cBl b
  | .non, _, _ => cNon
  | .str n, _, _ => cStr n
  | .gi n i, _, sc => cGlo sc n (F.ic.contains (n, i))
  | .gs n s, _, sc => cGlo sc n (F.wc.contains (n, s))
  | .bin o a b, _, sc => cBin o (chk F N a .e sc) (chk F N b .e sc)
  | .neg a, _, sc => cUn .USub (chk F N a .e sc)
  | .nt a, _, sc => cUn .Not (chk F N a .e sc)
  | .and a b, _, sc => cBool .And (chk F N a .e sc) (chk F N b .e sc)
  | .or a b, _, sc => cBool .Or (chk F N a .e sc) (chk F N b .e sc)
  | .cmp o a b, _, sc => cCmp o (chk F N a .e sc) (chk F N b .e sc)
  | .chain o p a b d, _, sc => cChain o p (chk F N a .e sc) (chk F N b .e sc) (chk F N d .e sc)
  | .ife t a b, _, sc => cIf (chk F N t .e sc) (chk F N a .e sc) (chk F N b .e sc)
  | .call f as, _, sc => cCall sc f (isArgs as && F.fns.contains (.fn f)) (chk F N as .a sc)
  | .new c as, _, sc => cCall sc c (isArgs as && F.cl.contains c && F.fns.contains (.me c .d_init)) (chk F N as .a sc)
  | .meth o m as, _, sc => cMeth m.str (fun n => isArgs as && decide (n < 30)) (chk F N o .e sc) (chk F N as .a sc)
  | .bi f as, _, sc => cBi2 F sc f (isArgs as) (chk F N as .a sc)
  | .bm m o as, _, sc => cMeth (bmS m) (fun n => isArgs as && (bmN m).contains n) (chk F N o .e sc) (chk F N as .a sc)
  | .attr o f, _, sc => cAttr f.str (F.fields.contains f) (chk F N o .e sc)
  | .ix a i, _, sc => cIx (chk F N a .e sc) (chk F N i .e sc)
  | .sl a lo hi, _, sc => cSl (chk F N a .e sc) (ifNo lo (chk F N lo .e sc)) (ifNo hi (chk F N hi .e sc))
  | .rev a, _, sc => cRev (chk F N a .e sc)
  | .tup es, _, sc => fun xs => isArgs es && decide (argN es ≤ 1000) && cTup (chk F N es .a sc) xs
  | .lst es, _, sc => fun xs => isArgs es && decide (argN es ≤ 1000) && cLst (chk F N es .a sc) xs
  | .dct kvs, _, sc => fun xs => isKv kvs && cDct (chk F N kvs .a sc) xs
  | .lc xs one it elt cnd, _, sc => cLc N sc xs one (chk F N it .i sc) (chk F N elt .e) (fun sc => ifNo cnd (chk F N cnd .e sc))
  | .isi a t, _, sc => cIsi F sc (tyS t) (chk F N a .e sc)
  | .rng1 a, m, sc => fun xs => m.isI && cBi F sc "range" (fun n => decide (n = 1)) (cCons (chk F N a .e sc) cNil) xs
  | .rng2 a b, m, sc => fun xs => m.isI && cBi F sc "range" (fun n => decide (n = 2)) (cCons (chk F N a .e sc) (cCons (chk F N b .e sc) cNil)) xs
  | .enm _, _, _ => fun _ => false
  | .nil, m, _ => fun xs => m.isA && cNil xs
  | .no, _, _ => fun _ => false
  | .cons a r, m, sc => fun xs => m.isA && cCons (chk F N a .e sc) (chk F N r .a sc) xs
  | .kv k v r, m, sc => fun xs => m.isA && cKv (chk F N k .e sc) (chk F N v .e sc) (chk F N r .a sc) xs

section
theorem nof {P : Prop} (h : false = true) : P := by cases h
variable {N : List Str} {sc : Scope} {f g k : Ck} {xs : List Expr}
theorem cVar_inv {i : Nat} (h : cVar N sc i xs = true) : ∃ x p, xs = [.Name x p] ∧ N[i]? = some x ∧ vis sc x = true ∧ noOdd x = true := by
  unfold cVar at h
  split at h
  · simp only [Bool.and_eq_true, decide_eq_true_eq] at h
    exact ⟨_, _, rfl, h.1.1, h.1.2, h.2⟩
  · cases h
theorem cInt_inv {i : Int} (h : cInt i xs = true) : ∃ k p, xs = [.Constant (.int i) k p] := by
  unfold cInt at h
  split at h
  · simp only [decide_eq_true_eq] at h
    subst h; exact ⟨_, _, rfl⟩
  · cases h
theorem cBl_inv {i : Bool} (h : cBl i xs = true) : ∃ k p, xs = [.Constant (.bool i) k p] := by
  unfold cBl at h
  split at h
  · have e := eq_of_beq h
    subst e; exact ⟨_, _, rfl⟩
  · cases h
theorem cNon_inv (h : cNon xs = true) : ∃ k p, xs = [.Constant .none k p] := by
  unfold cNon at h
  split at h
  · exact ⟨_, _, rfl⟩
  · cases h
theorem cStr_inv {n : Nm} (h : cStr n xs = true) : ∃ k p, xs = [.Constant (.str n.str) k p] := by
  unfold cStr at h
  split at h
  · simp only [decide_eq_true_eq] at h
    subst h; exact ⟨_, _, rfl⟩
  · cases h
theorem cGlo_inv {n : Nm} {b : Bool} (h : cGlo sc n b xs = true) : ∃ p, xs = [.Name n.str p] ∧ glo sc n.str = true ∧ noDebug n.str = true ∧ b = true := by
  unfold cGlo at h
  split at h
  · simp only [Bool.and_eq_true, decide_eq_true_eq] at h
    obtain ⟨⟨⟨h1, h2⟩, h3⟩, h4⟩ := h
    subst h1; exact ⟨_, rfl, h2, h3, h4⟩
  · cases h
theorem cBin_inv {o : Bo} (h : cBin o f g xs = true) : ∃ l r p, xs = [.BinOp l (boP o) r p] ∧ f [l] = true ∧ g [r] = true := by
  unfold cBin opB at h
  split at h
  · simp only [Bool.and_eq_true, decide_eq_true_eq] at h
    obtain ⟨⟨h1, h2⟩, h3⟩ := h
    subst h1; exact ⟨_, _, _, rfl, h2, h3⟩
  · cases h
theorem cUn_inv {o : UnaryOp} (h : cUn o f xs = true) : ∃ l p, xs = [.UnaryOp o l p] ∧ f [l] = true := by
  unfold cUn at h
  split at h
  · simp only [Bool.and_eq_true, decide_eq_true_eq] at h
    obtain ⟨h1, h2⟩ := h
    subst h1; exact ⟨_, _, rfl, h2⟩
  · cases h
theorem cBool_inv {o : BoolOp} (h : cBool o f g xs = true) : ∃ x y r p, xs = [.BoolOp o (x :: y :: r) p] ∧ f [x] = true ∧ (r = [] ∧ g [y] = true ∨ g [.BoolOp o (y :: r) p] = true) := by
  unfold cBool at h
  split at h
  · simp only [Bool.and_eq_true, decide_eq_true_eq] at h
    obtain ⟨⟨h1, h2⟩, h3⟩ := h
    subst h1
    refine ⟨_, _, _, _, rfl, h2, ?_⟩
    split at h3
    · exact .inl ⟨rfl, h3⟩
    · exact .inr h3
  · cases h
theorem cCmp_inv {o : Co} (h : cCmp o f g xs = true) : ∃ x y p, xs = [.Compare x [coP o] [y] p] ∧ noSet y = true ∧ f [x] = true ∧ g [y] = true := by
  unfold cCmp coB at h
  split at h
  · simp only [Bool.and_eq_true, decide_eq_true_eq] at h
    obtain ⟨⟨⟨h1, h2⟩, h3⟩, h4⟩ := h
    subst h1; exact ⟨_, _, _, rfl, h2, h3, h4⟩
  · cases h
theorem cChain_inv {o o' : Co} (h : cChain o o' f g k xs = true) : ∃ x y z p, xs = [.Compare x [coP o, coP o'] [y, z] p] ∧ noSet z = true ∧ f [x] = true ∧ g [y] = true ∧ k [z] = true := by
  unfold cChain coB at h
  split at h
  · simp only [Bool.and_eq_true, decide_eq_true_eq] at h
    obtain ⟨⟨⟨⟨⟨h1, h2⟩, h3⟩, h4⟩, h5⟩, h6⟩ := h
    subst h1 h2; exact ⟨_, _, _, _, rfl, h3, h4, h5, h6⟩
  · cases h
theorem cIf_inv (h : cIf f g k xs = true) : ∃ x y z p, xs = [.IfExp x y z p] ∧ f [x] = true ∧ g [y] = true ∧ k [z] = true := by
  unfold cIf at h
  split at h
  · simp only [Bool.and_eq_true] at h
    exact ⟨_, _, _, _, rfl, h.1.1, h.1.2, h.2⟩
  · cases h
theorem cCall_inv {n : Nm} {b : Bool} (h : cCall sc n b g xs = true) : ∃ p es q, xs = [.Call (.Name n.str p) es [] q] ∧ glo sc n.str = true ∧ noDebug n.str = true ∧ b = true ∧ g es = true := by
  unfold cCall at h
  split at h
  · simp only [Bool.and_eq_true, decide_eq_true_eq] at h
    obtain ⟨⟨⟨⟨h1, h2⟩, h3⟩, h4⟩, h5⟩ := h
    subst h1; exact ⟨_, _, _, rfl, h2, h3, h4, h5⟩
  · cases h
theorem cMeth_inv {m : Str} {b : Nat → Bool} (h : cMeth m b f g xs = true) : ∃ x p es q, xs = [.Call (.Attribute x m p) es [] q] ∧ noSup x = true ∧ p.endLine = q.line ∧ b es.length = true ∧ f [x] = true ∧ g es = true := by
  unfold cMeth at h
  split at h
  · simp only [Bool.and_eq_true, decide_eq_true_eq] at h
    obtain ⟨⟨⟨⟨⟨h1, h2⟩, h3⟩, h4⟩, h5⟩, h6⟩ := h
    subst h1; exact ⟨_, _, _, _, rfl, h2, h3, h4, h5, h6⟩
  · cases h
theorem free_inv {F : Fx} {x y : Str} (h : freeB F sc x y = true) : x = y ∧ glo sc y = true ∧ y ∈ F.free := by
  unfold freeB at h
  simp only [Bool.and_eq_true, decide_eq_true_eq] at h
  obtain ⟨⟨h1, h2⟩, h3⟩ := h
  subst h1
  exact ⟨rfl, h2, List.contains_iff_mem.mp h3⟩
theorem cBi_inv {F : Fx} {n : Str} {b : Nat → Bool} (h : cBi F sc n b g xs = true) : ∃ p es q, xs = [.Call (.Name n p) es [] q] ∧ glo sc n = true ∧ n ∈ F.free ∧ b es.length = true ∧ g es = true := by
  unfold cBi at h
  split at h
  · simp only [Bool.and_eq_true] at h
    obtain ⟨⟨h1, h2⟩, h3⟩ := h
    obtain ⟨e, h4, h5⟩ := free_inv h1
    subst e; exact ⟨_, _, _, rfl, h4, h5, h2, h3⟩
  · cases h
theorem cAttr_inv {n : Str} {b : Bool} (h : cAttr n b f xs = true) : ∃ x p, xs = [.Attribute x n p] ∧ noSup x = true ∧ b = true ∧ f [x] = true := by
  unfold cAttr at h
  split at h
  · simp only [Bool.and_eq_true, decide_eq_true_eq] at h
    obtain ⟨⟨⟨h1, h2⟩, h3⟩, h4⟩ := h
    subst h1; exact ⟨_, _, rfl, h2, h3, h4⟩
  · cases h
theorem cIx_inv (h : cIx f g xs = true) : ∃ x y p, xs = [.Subscript x y p] ∧ plainE y = true ∧ f [x] = true ∧ g [y] = true := by
  unfold cIx at h
  split at h
  · simp only [Bool.and_eq_true] at h
    exact ⟨_, _, _, rfl, h.1.1, h.1.2, h.2⟩
  · cases h
theorem cSl_inv (h : cSl f g k xs = true) : ∃ x l u p q, xs = [.Subscript x (.Slice l u none p) q] ∧ f [x] = true ∧ g (optL l) = true ∧ k (optL u) = true := by
  unfold cSl at h
  split at h
  · simp only [Bool.and_eq_true] at h
    exact ⟨_, _, _, _, _, rfl, h.1.1, h.1.2, h.2⟩
  · cases h
theorem cRev_inv (h : cRev f xs = true) : ∃ x n p p1 p2 p3, xs = [.Subscript x (.Slice none none (some (.UnaryOp .USub (.Constant (.int 1) n p) p1)) p2) p3] ∧ f [x] = true := by
  unfold cRev at h
  split at h
  · exact ⟨_, _, _, _, _, _, rfl, h⟩
  · cases h
theorem cTup_inv (h : cTup f xs = true) : ∃ es n p, xs = [.Tuple es n p] ∧ f es = true := by
  unfold cTup at h
  split at h
  · exact ⟨_, _, _, rfl, h⟩
  · cases h
theorem cLst_inv (h : cLst f xs = true) : ∃ es p, xs = [.List es p] ∧ f es = true := by
  unfold cLst at h
  split at h
  · exact ⟨_, _, rfl, h⟩
  · cases h
theorem cDct_inv (h : cDct f xs = true) : ∃ ks vs p, xs = [.Dict ks vs p] ∧ ks.all (·.isSome) = true ∧ ks.length = vs.length ∧ ks.length ≤ 15 ∧ f (zipKV ks vs) = true := by
  unfold cDct at h
  split at h
  · simp only [Bool.and_eq_true, decide_eq_true_eq] at h
    exact ⟨_, _, _, rfl, h.1.1.1, h.1.1.2, h.1.2, h.2⟩
  · cases h
theorem cLc_inv {ys : List Nat} {one : Bool} {g k : Scope → Ck} (h : cLc N sc ys one f g k xs = true) : ∃ e t i ifs scope p, xs = [.ListComp e [⟨t, i, ifs, 0⟩] scope p] ∧ noSet i = true ∧ f [i] = true ∧ blkC N sc scope (ownOf N ys) = true ∧
    (ownOf N ys).map (·.2) = ys ∧ tgt1 true N (relS scope sc) ys one t = true ∧ g (relS scope sc) [e] = true ∧ k (relS scope sc) ifs = true ∧ ifs.length ≤ 1 := by
  unfold cLc at h
  split at h
  · simp only [Bool.and_eq_true, decide_eq_true_eq] at h
    obtain ⟨⟨⟨⟨⟨⟨⟨h1, h2⟩, h3⟩, h4⟩, h5⟩, h6⟩, h7⟩, h8⟩ := h
    exact ⟨_, _, _, _, _, _, rfl, h1, h2, h3, h4, h5, h6, h7, h8⟩
  · cases h
theorem cIsi_inv {F : Fx} {t : Str} (h : cIsi F sc t f xs = true) : ∃ p y q q2, xs = [.Call (.Name "isinstance" p) [y, .Name t q] [] q2] ∧ glo sc "isinstance" = true ∧ ("isinstance" : Str) ∈ F.free ∧ glo sc t = true ∧ t ∈ F.free ∧ plainE y = true ∧ f [y] = true := by
  unfold cIsi at h
  split at h
  · simp only [Bool.and_eq_true] at h
    obtain ⟨⟨⟨h1, h2⟩, h3⟩, h4⟩ := h
    obtain ⟨e, a1, a2⟩ := free_inv h1
    obtain ⟨e', b1, b2⟩ := free_inv h2
    subst e e'
    exact ⟨_, _, _, _, rfl, a1, a2, b1, b2, h3, h4⟩
  · cases h
theorem cNil_inv (h : cNil xs = true) : xs = [] := by
  unfold cNil at h
  split at h
  · rfl
  · cases h
theorem cCons_inv (h : cCons f g xs = true) : ∃ e es, xs = e :: es ∧ plainE e = true ∧ f [e] = true ∧ g es = true := by
  unfold cCons at h
  split at h
  · simp only [Bool.and_eq_true] at h
    exact ⟨_, _, rfl, h.1.1, h.1.2, h.2⟩
  · cases h
theorem cKv_inv (h : cKv f g k xs = true) : ∃ x y es, xs = x :: y :: es ∧ f [x] = true ∧ g [y] = true ∧ k es = true := by
  unfold cKv at h
  split at h
  · simp only [Bool.and_eq_true] at h
    exact ⟨_, _, _, rfl, h.1.1, h.1.2, h.2⟩
  · cases h
end

structure Facts (F : Fx) (K : PySem.W.Frag) (mg : Str → Option Value) : Prop where
  ic : ∀ p ∈ F.ic, ∃ t, mg p.1.str = some (.int p.2 t)
  wc : ∀ p ∈ F.wc, ∃ t, mg p.1.str = some (.str p.2.str t)
  free : ∀ x ∈ F.free, mg x = none
  fn : ∀ f, Fk.fn f ∈ F.fns → mg f.str = some (.ref (He.fAd K (f.str, none)))
  cls : ∀ c ∈ F.cl, mg c.str = some (.ref (He.ga K c.str)) ∧ Cls K (He.ga K c.str)
  noat : ∀ c ∈ F.cl, ∀ f ∈ F.fields, NoAttr K (He.ga K c.str) f.str
  meth : ∀ c m, Fk.me c m ∈ F.fns → Meth K (He.ga K c.str) m.str (He.fAd K (c.str, some m.str))
  mkr : ∀ c ∈ F.cl, Fk.me c .d_init ∈ F.fns → Mk K (He.ga K c.str) (He.fAd K (c.str, some Nm.d_init.str))
  exc : ∀ c ∈ F.exc, mg c.str = some (.ref (He.ga K c.str)) ∧ PySem.W.excIn K (He.ga K c.str) He.veBase "ValueError.__new__" = true ∧ PySem.W.keepIn K (.ref (He.ga K c.str)) = true ∧
    PySem.W.subIn K (.ref (He.ga K c.str)) (.type "BaseException") = some true ∧ PySem.W.typeIn K (.ref (He.ga K c.str)) = some (.type "type")
  drain : ∀ c ∈ F.exc, PySem.W.exmOne K (.ref (He.ga K c.str)) (.ref (He.ga K Nm.n_DrainError.str)) = some true
  tab : ∀ f, F.T f ≠ none → f ∈ F.fns
  keep : ∀ f ∈ F.fns, PySem.W.keepIn K (.ref (He.fAd K (fkAt f))) = true

/-- a def's promise: what its run tells -/
def spF (K : PySem.W.Frag) (cl : List Nm) (np : Nat) (m : List W → Sto → R W) : Sp := fun vs H Q E => vs.length = np ∧ ∃ r S ws, Rel K cl r S H ∧ RVs K r H ws vs ∧ Post K cl (fun c d _ H => E c d H) [] r H Q (m ws S)

/-- the defs that are called keep their promises -/
structure Fns (F : Fx) (c : Call) (L : Nat) (X : Cx) : Prop where
  ok : ∀ f d, F.T f = some d → ∃ fd ps, ps.length = d.np ∧ FnOk X.prog X.w X.K X.mg X.base (L2.CX X.prog X.w) L (He.fAd X.K (fkAt f)) fd ps (spF X.K F.cl d.np (c f)) ∧ Binds X.K fd ps [] ∧ PySem.W.keepIn X.K (.ref (He.fAd X.K (fkAt f))) = true
  non : ∀ f as S, F.T f = none → c f as S = .no
  len : ∀ f d as S, F.T f = some d → as.length ≠ d.np → c f as S = .no
/-- where one stands -/
structure Ok (F : Fx) (N : List Str) (c : Call) (L : Nat) (X : Cx) : Prop where
  fa : Facts F X.K X.mg
  hN : X.N = N
  nd : N.Nodup
  calm : X.calm = true
  room : Room (L + 1) X.A
  fns : Fns F c L X
end D
end

section
set_option maxHeartbeats 1000000
/-! Expressions: the readings by runs. -/
namespace D
open PySem PySem.Spec PyProof.Rows L2

section
variable (K : PySem.W.Frag) (cl : List Nm) (Wx : WX)
def tM (m : Env → Sto → R W) : TE := fun σ H Q => ∃ r w S, Rel K cl r S H ∧ RSig K r H w σ ∧ Post K cl Wx σ r H Q (m w S)
def tMT (m : Env → Sto → R W) : TT := fun σ H Q => ∃ r w S, Rel K cl r S H ∧ RSig K r H w σ ∧ PostB K cl Wx σ r H Q (m w S)
def tMA (m : Env → Sto → R W) : TA := fun σ H Q => ∃ r w S, Rel K cl r S H ∧ RSig K r H w σ ∧ PostA K cl Wx σ r H Q (m w S)
end
/-- what is walked, by a value -/
inductive IR (K : PySem.W.Frag) (r : Rho) (H : Hp) (S : Sto) : W → It → Prop
  | tup {xs : List W} {a : Addr} {vs : List V} : TupAt H a vs → RVs K r H xs vs → IR K r H S (.tup xs) (Itt K a)
  | lst {n : Nat} {a : Addr} {xs : List W} : r n = some a → lstOf S (.ref n) = some xs → IR K r H S (.ref n) (Itl K a)
  | rng {lo hi : Int} : IR K r H S (.tup (rangeW lo hi)) (Itr lo (hi - lo).toNat)
  | keys {n : Nat} {a : Addr} {o : Obj} {kvs : List (Key × W)} {us : List (Key × V)} : r n = some a → S.get n = some (.dct true kvs) → H a = some (.frz o (.dK us)) → RKV K r H kvs us → IR K r H S (.ref n) (Itk a o us)
def walks (S : Sto) : W → Bool
  | .tup _ => true
  | .ref n => (match S.get n with
    | some (.lst _) => true
    | some (.frz _) => true
    | some (.dct true _) => true
    | _ => false)
  | _ => false
section
variable (K : PySem.W.Frag) (cl : List Nm) (Wx : WX)
def PostI (s : L2.St) (r : Rho) (H : Hp) (Q : It → Hp → Prop) : R W → Prop
  | .ok v S => walks S v = true ∧ ∀ r' H' J, Ge K r H r' H' → Rel K cl r' S H' → IR K r' H' S v J → Q J H'
  | .ex x S => ∀ r' H' d, Ge K r H r' H' → Rel K cl r' S H' → XR K r' H' x d → Wx (xc K x) d s H'
  | .no => False
def tMI (m : Env → Sto → R W) : TI := fun σ H Q => ∃ r w S, Rel K cl r S H ∧ RSig K r H w σ ∧ PostI K cl Wx σ r H Q (m w S)
end

/-- what is proved of an expression -/
def trs (K : PySem.W.Frag) (cl : List Nm) (Wx : WX) (c : Call) : E → List (TE × TE)
  | .kv k v r => (tM K cl Wx (eval c k), tM K cl Wx (eval c v)) :: trs K cl Wx c r
  | _ => []
structure Snd (F : Fx) (N : List Str) (c : Call) (L : Nat) (e : E) : Prop where
  pe : ∀ (X : Cx) (Wx : WX) (x : Expr), Ok F N c L X → Takes X Wx → chk F N e .e X.env.scope [x] = true → PE X x (tM X.K F.cl Wx (eval c e))
  pt : ∀ (X : Cx) (Wx : WX) (x : Expr), Ok F N c L X → Takes X Wx → chk F N e .e X.env.scope [x] = true → PT X x (tMT X.K F.cl Wx (eval c e))
  pa : ∀ (X : Cx) (Wx : WX) (xs : List Expr), Ok F N c L X → Takes X Wx → isArgs e = true → chk F N e .a X.env.scope xs = true → PA X xs (tMA X.K F.cl Wx (eval c e)) ∧ xs.all plainE = true
  pi : ∀ (X : Cx) (Wx : WX) (tg x : Expr), Ok F N c L X → Takes X Wx → chk F N e .i X.env.scope [x] = true → PI X tg x (tMI X.K F.cl Wx (eval c e))
  pk : ∀ (X : Cx) (Wx : WX) (pos : Pos) (ks : List (Option Expr)) (vs : List Expr), Ok F N c L X → Takes X Wx → isKv e = true → ks.all (·.isSome) = true → ks.length = vs.length → chk F N e .a X.env.scope (zipKV ks vs) = true → PPs X pos ks vs (trs X.K F.cl Wx c e)

section
variable {F : Fx} {N : List Str} {c : Call} {L : Nat} {X : Cx} {Wx : WX} {m : Env → Sto → R W}
theorem pt_of {x : Expr} (h : PE X x (tM X.K F.cl Wx m)) (he : ∀ whole, isTrue x X.env whole = (do let v ← whole; standAt x.pos; holding [v] (truthy v))) : PT X x (tMT X.K F.cl Wx m) := by
  have := pt_val h he
  refine ⟨fun pins s σ H Q I ⟨r, w, S, rel, sg, p⟩ => this.run pins s σ H Q I ⟨r, w, S, rel, sg, ?_⟩⟩
  cases e : m w S with
  | ok v S' =>
    rw [e] at p
    obtain ⟨b, eb, p⟩ := p
    subst eb
    intro r' H' u g q rv
    cases rv
    exact ⟨b, rfl, p r' H' g q⟩
  | ex x S' => rw [e] at p; exact p
  | no => rw [e] at p; exact p
/-- PE weakened to another reading -/
theorem PE.imp {x : Expr} {t t' : TE} (h : PE X x t) (i : ∀ σ H Q, t' σ H Q → t σ H Q) : PE X x t' := ⟨fun pins s σ H Q I q => h.run pins s σ H Q I (i σ H Q q)⟩
theorem PT.imp {x : Expr} {t t' : TT} (h : PT X x t) (i : ∀ σ H Q, t' σ H Q → t σ H Q) : PT X x t' := ⟨fun pins s σ H Q I q => h.run pins s σ H Q I (i σ H Q q)⟩
theorem PA.imp {xs : List Expr} {t t' : TA} (h : PA X xs t) (i : ∀ σ H Q, t' σ H Q → t σ H Q) : PA X xs t' := ⟨fun pos pins s σ H Q I q => h.run pos pins s σ H Q I (i σ H Q q)⟩
theorem pi_of {tg x : Expr} (h : PE X x (tM X.K F.cl Wx m)) : PI X tg x (tMI X.K F.cl Wx m) := by
  refine ⟨fun pins s σ H R' I ⟨r, w, S, rel, sg, p⟩ => ?_⟩
  cases e : m w S with
  | no => rw [e] at p; exact False.elim p
  | ex y S' =>
    rw [e] at p
    refine (pi_list h).run pins s σ H R' I ⟨r, w, S, rel, sg, ?_⟩
    rw [e]; exact p
  | ok v S' =>
    rw [e] at p
    obtain ⟨hw, p⟩ := p
    cases v with
    | tup xs =>
      refine (pi_tup h).run pins s σ H R' I ⟨r, w, S, rel, sg, ?_⟩
      rw [e]
      intro r' H' u g q rv
      cases rv with
      | tup e1 hs => exact ⟨_, rfl, ⟨_, e1.sq⟩, p r' H' _ g q (.tup e1 hs)⟩
    | ref n =>
      cases gn : S'.get n with
      | none => simp only [walks, gn] at hw; cases hw
      | some d =>
        cases d with
        | lst xs =>
          refine (pi_list h).run pins s σ H R' I ⟨r, w, S, rel, sg, ?_⟩
          rw [e]
          intro r' H' u g q rv
          cases rv with
          | ref e1 =>
            obtain ⟨vs, a1, h1⟩ := q.lst e1 gn
            exact ⟨_, rfl, ⟨_, SqL.of a1⟩, p r' H' _ g q (.lst (xs := xs) e1 (by simp only [lstOf, gn]))⟩
        | frz xs =>
          refine (pi_list h).run pins s σ H R' I ⟨r, w, S, rel, sg, ?_⟩
          rw [e]
          intro r' H' u g q rv
          cases rv with
          | ref e1 =>
            obtain ⟨o, vs, a1, h1⟩ := q.frz e1 gn
            exact ⟨_, rfl, ⟨_, .inl (.inr ⟨o, a1⟩)⟩, p r' H' _ g q (.lst (xs := xs) e1 (by simp only [lstOf, gn]))⟩
        | dct l kvs =>
          cases l with
          | false => simp only [walks, gn] at hw; cases hw
          | true =>
            refine (pi_keys h).run pins s σ H R' I ⟨r, w, S, rel, sg, ?_⟩
            rw [e]
            intro r' H' u g q rv
            cases rv with
            | ref e1 =>
              obtain ⟨o, e3, e4⟩ := q.node e1 gn
              cases e4 with
              | dctL hk => exact ⟨_, _, rfl, .inl ⟨_, e3, p r' H' _ g q (.keys e1 gn e3 hk)⟩⟩
        | ins k fs => simp only [walks, gn] at hw; cases hw
    | _ => cases hw
theorem gl_of {sc : Scope} {x : Str} (h : glo sc x = true) (e : X.env.scope = sc) : Gl X x := by
  subst e
  unfold glo at h
  unfold Gl Env.kindOf
  split at h
  · assumption
  · cases h
theorem vis_of {sc : Scope} {x : Str} (h : vis sc x = true) : Vis sc x := by
  unfold vis at h
  unfold Vis
  split at h
  · exact .inl (by assumption)
  · exact .inr (.inl (by assumption))
  · exact .inr (.inr (by assumption))
  · cases h
theorem bnot {b : Bool} (h : (!b) = true) : b = false := by
  cases b with
  | true => cases h
  | false => rfl
theorem band {a b : Bool} (h : (a && b) = true) : a = true ∧ b = true := Bool.and_eq_true_iff.mp h
theorem star1 {e : Expr} {es : List Expr} {env : PySem.Env} (h : plainE e = true) : starEach (e :: es) env = (false, PySem.eval e env) :: starEach es env := by
  cases e <;> first | rfl | cases h
theorem stars {es : List Expr} {env : PySem.Env} {pos : Pos} (h : es.all plainE = true) : (backTo pos (starEach es env)).any (·.1) = false := by
  induction es with
  | nil => rfl
  | cons e es ih =>
    rw [List.all_cons, Bool.and_eq_true] at h
    rw [star1 h.1]
    show (false || (backTo pos (starEach es env)).any (·.1)) = false
    rw [ih h.2]; rfl
theorem stars_all {es : List Expr} {env : PySem.Env} {pos : Pos} (h : es.all plainE = true) : (backTo pos (starEach es env)).all (fun x => !x.1) = true := by
  induction es with
  | nil => rfl
  | cons e es ih =>
    rw [List.all_cons, Bool.and_eq_true] at h
    rw [star1 h.1]
    show (true && (backTo pos (starEach es env)).all (fun x => !x.1)) = true
    rw [ih h.2]; rfl
theorem sup_of {e : Expr} {f : Str} {env : PySem.Env} (h : noSup e = true) : attributeBase e f env (PySem.eval e env) = PySem.eval e env := by
  unfold attributeBase
  split
  · rename_i id p pos
    cases h
  · rfl
theorem plainIx_of {e : Expr} (h : plainE e = true) : PlainIx e := by
  intro o i
  cases e <;> first | rfl | cases h
theorem noset_of {op : CmpOp} {e : Expr} (h : noSet e = true) : behindInMarks op e = false := by
  cases e <;> first | rfl | cases h
theorem fold_of {e : Expr} {env : PySem.Env} (h : noSet e = true) : ∀ x, foldedSetIterable e env x = pure x := by
  intro x
  cases e <;> first | rfl | cases h
theorem dec_of {p : Prop} [Decidable p] (h : decide p = true) : p := of_decide_eq_true h
end
end D
end

section
set_option maxHeartbeats 1000000
/-! Expressions, one by one. -/
namespace D
open PySem PySem.Spec PyProof.Rows L2

def notRng : E → Bool
  | .rng1 _ => false
  | .rng2 _ _ => false
  | _ => true
section
variable {F : Fx} {N : List Str} {c : Call} {L : Nat}
theorem chk_mode {e : E} {sc : Scope} {xs : List Expr} (h : notRng e = true) : chk F N e .i sc xs = chk F N e .e sc xs := by
  cases e <;> first | rfl | cases h
/-- a kind of expression that is neither a test of its own, nor arguments, nor walked otherwise -/
theorem Snd.plain {e : E} (pe : ∀ (X : Cx) (Wx : WX) (x : Expr), Ok F N c L X → Takes X Wx → chk F N e .e X.env.scope [x] = true → PE X x (tM X.K F.cl Wx (eval c e)))
    (he : ∀ (X : Cx) (x : Expr), chk F N e .e X.env.scope [x] = true → ∀ whole, isTrue x X.env whole = (do let v ← whole; standAt x.pos; holding [v] (truthy v)))
    (ha : isArgs e = false) (hm : notRng e = true) (hk : isKv e = false := by rfl) : Snd F N c L e where
  pk := fun X Wx pos ks vs ok tk h => by rw [hk] at h; cases h
  pe := pe
  pt := fun X Wx x ok tk h => pt_of (pe X Wx x ok tk h) (he X x h)
  pa := fun X Wx xs ok tk h => by rw [ha] at h; cases h
  pi := fun X Wx tg x ok tk h => pi_of (pe X Wx x ok tk (by rw [← chk_mode hm]; exact h))
theorem pe_const {X : Cx} {Wx : WX} {K : PySem.W.Frag} {cl : List Nm} {x : Expr} {v : V} {w : W} {m : Env → Sto → R W} (h : PE X x (tC v)) (q : ∀ r H, RV K r H w v) (hm : ∀ σ S, m σ S = .ok w S) : PE X x (tM K cl Wx m) :=
  PE.imp h fun σ H Q ⟨r, w', S, rel, sg, p⟩ => by
    rw [hm] at p
    exact p.val rel (q r H)
theorem snd_var (i : Nat) : Snd F N c L (.var i) := by
  refine .plain (fun X Wx x ok tk h => ?_) (fun X x h => ?_) rfl rfl
  · obtain ⟨x, pos, e, h1, h3, h4⟩ := cVar_inv h
    cases e
    obtain ⟨h4, h5⟩ := band h4
    refine PE.imp (pe_var (i := i) (by rw [ok.hN]; exact h1) (vis_of h3) (bnot h4) (bnot h5)) fun σ H Q ⟨r, w, S, rel, sg, p⟩ => ?_
    simp only [eval] at p
    split at p
    · rename_i v g
      obtain ⟨u, e1, e2⟩ := sg.at_ i v g
      exact ⟨u, e1, p.val rel e2⟩
    · exact False.elim p
  · obtain ⟨x, pos, e, h1, h3, h4⟩ := cVar_inv h
    cases e
    intro _; rfl
theorem snd_int (i : Int) : Snd F N c L (.int i) := by
  refine .plain (fun X Wx x ok tk h => ?_) (fun X x h => ?_) rfl rfl
  · obtain ⟨k, p, e⟩ := cInt_inv h
    cases e
    exact pe_const pe_int (fun _ _ => .int _) fun _ _ => rfl
  · obtain ⟨k, p, e⟩ := cInt_inv h
    cases e
    intro _; rfl
theorem snd_bl (b : Bool) : Snd F N c L (.bl b) := by
  refine .plain (fun X Wx x ok tk h => ?_) (fun X x h => ?_) rfl rfl
  · obtain ⟨k, p, e⟩ := cBl_inv h
    cases e
    exact pe_const pe_bl (fun _ _ => .bl _) fun _ _ => rfl
  · obtain ⟨k, p, e⟩ := cBl_inv h
    cases e
    intro _; rfl
theorem snd_non : Snd F N c L .non := by
  refine .plain (fun X Wx x ok tk h => ?_) (fun X x h => ?_) rfl rfl
  · obtain ⟨k, p, e⟩ := cNon_inv h
    cases e
    exact pe_const pe_non (fun _ _ => .non) fun _ _ => rfl
  · obtain ⟨k, p, e⟩ := cNon_inv h
    cases e
    intro _; rfl
theorem snd_str (n : Nm) : Snd F N c L (.str n) := by
  refine .plain (fun X Wx x ok tk h => ?_) (fun X x h => ?_) rfl rfl
  · obtain ⟨k, p, e⟩ := cStr_inv h
    cases e
    exact pe_const pe_str (fun _ _ => .str _) fun _ _ => rfl
  · obtain ⟨k, p, e⟩ := cStr_inv h
    cases e
    intro _; rfl
theorem snd_gi (n : Nm) (i : Int) : Snd F N c L (.gi n i) := by
  refine .plain (fun X Wx x ok tk h => ?_) (fun X x h => ?_) rfl rfl
  · obtain ⟨p, e, h2, h3, h4⟩ := cGlo_inv h
    cases e
    obtain ⟨t, ht⟩ := ok.fa.ic (n, i) (List.contains_iff_mem.mp h4)
    exact pe_const (pe_glob (v := .int i) (gl_of h2 rfl) ht (show ∃ t', _ = _ from ⟨t, rfl⟩) (bnot h3)) (fun _ _ => .int _) fun _ _ => rfl
  · obtain ⟨p, e, h2, h3, h4⟩ := cGlo_inv h
    cases e
    intro _; rfl
theorem snd_gs (n s : Nm) : Snd F N c L (.gs n s) := by
  refine .plain (fun X Wx x ok tk h => ?_) (fun X x h => ?_) rfl rfl
  · obtain ⟨p, e, h2, h3, h4⟩ := cGlo_inv h
    cases e
    obtain ⟨t, ht⟩ := ok.fa.wc (n, s) (List.contains_iff_mem.mp h4)
    exact pe_const (pe_glob (v := .str s.str) (gl_of h2 rfl) ht (show ∃ t', _ = _ from ⟨t, rfl⟩) (bnot h3)) (fun _ _ => .str _) fun _ _ => rfl
  · obtain ⟨p, e, h2, h3, h4⟩ := cGlo_inv h
    cases e
    intro _; rfl
theorem snd_bin {o : Bo} {a b : E} (ha : Snd F N c L a) (hb : Snd F N c L b) : Snd F N c L (.bin o a b) := by
  refine .plain (fun X Wx x ok tk h => ?_) (fun X x h => ?_) rfl rfl
  · obtain ⟨l, r, p, e, h2, h3⟩ := cBin_inv h
    cases e
    refine ⟨fun pins s σ H Q I ⟨r, w, S, rel, sg, p⟩ => (pe_op (op_bin (cl := F.cl) (Wx := Wx) (s0 := σ) o) (ha.pe X Wx _ ok tk h2) (hb.pe X Wx _ ok tk h3)).run pins s σ H Q I ⟨r, w, S, rel, sg, ?_⟩⟩
    simp only [eval] at p
    exact p.bind fun x S1 r1 H1 u g1 q1 v1 p1 => ⟨r1, w, S1, q1, sg.mono g1, p1.bind fun y S2 r2 H2 v g2 q2 v2 p2 => ⟨r2, S2, x, y, q2, v1.mono g2, v2, p2⟩⟩
  · obtain ⟨l, r, p, e, h2, h3⟩ := cBin_inv h
    cases e
    intro _; rfl
theorem snd_neg {a : E} (ha : Snd F N c L a) : Snd F N c L (.neg a) := by
  refine .plain (fun X Wx x ok tk h => ?_) (fun X x h => ?_) rfl rfl
  · obtain ⟨l, p, e, h2⟩ := cUn_inv h
    cases e
    refine ⟨fun pins s σ H Q I ⟨r, w, S, rel, sg, p⟩ => (pe_un un_neg (ha.pe X Wx _ ok tk h2)).run pins s σ H Q I ⟨r, w, S, rel, sg, ?_⟩⟩
    simp only [eval] at p
    refine p.bind fun x S1 r1 H1 u g1 q1 v1 p1 => ?_
    cases v1 with
    | int i => exact ⟨i, rfl, p1.val q1 (.int _)⟩
    | _ => exact False.elim p1
  · obtain ⟨l, p, e, h2⟩ := cUn_inv h
    cases e
    intro _; rfl
/-- a test of its own -/
theorem Snd.test {e : E} (pe : ∀ (X : Cx) (Wx : WX) (x : Expr), Ok F N c L X → Takes X Wx → chk F N e .e X.env.scope [x] = true → PE X x (tM X.K F.cl Wx (eval c e)))
    (pt : ∀ (X : Cx) (Wx : WX) (x : Expr), Ok F N c L X → Takes X Wx → chk F N e .e X.env.scope [x] = true → PT X x (tMT X.K F.cl Wx (eval c e)))
    (ha : isArgs e = false) (hm : notRng e = true) (hk : isKv e = false := by rfl) : Snd F N c L e where
  pk := fun X Wx pos ks vs ok tk h => by rw [hk] at h; cases h
  pe := pe
  pt := pt
  pa := fun X Wx xs ok tk h => by rw [ha] at h; cases h
  pi := fun X Wx tg x ok tk h => pi_of (pe X Wx x ok tk (by rw [← chk_mode hm]; exact h))
section
variable {K : PySem.W.Frag} {cl : List Nm} {Wx : WX} {s : L2.St} {r : Rho} {H : Hp}
/-- a test, then the rest, all as tests -/
theorem PostB.bind {m : R W} {f : W → Sto → R W} {Q Q' : Bool → Hp → Prop} (h : PostB K cl Wx s r H Q (m.bind f)) (hf : ∀ v S, (∀ b, v ≠ .bl b) → f v S = .no)
    (k : ∀ b S r' H', Ge K r H r' H' → Rel K cl r' S H' → PostB K cl Wx s r' H' Q (f (.bl b) S) → Q' b H') : PostB K cl Wx s r H Q' m := by
  cases m with
  | ok v S =>
    have h' : PostB K cl Wx s r H Q (f v S) := h
    cases v with
    | bl b => exact ⟨b, rfl, fun r' H' g q => k b S r' H' g q (PostB.mono g h')⟩
    | _ => rw [hf _ _ (fun b z => by cases z)] at h'; exact False.elim h'
  | ex x S => exact h
  | no => exact h
theorem Post.bindB {m : R W} {f : W → Sto → R W} {Q : VK} {Q' : Bool → Hp → Prop} (h : Post K cl Wx s r H Q (m.bind f)) (hf : ∀ v S, (∀ b, v ≠ .bl b) → f v S = .no)
    (k : ∀ b S r' H', Ge K r H r' H' → Rel K cl r' S H' → Post K cl Wx s r' H' Q (f (.bl b) S) → Q' b H') : PostB K cl Wx s r H Q' m := by
  cases m with
  | ok v S =>
    have h' : Post K cl Wx s r H Q (f v S) := h
    cases v with
    | bl b => exact ⟨b, rfl, fun r' H' g q => k b S r' H' g q (Post.mono g h')⟩
    | _ => rw [hf _ _ (fun b z => by cases z)] at h'; exact False.elim h'
  | ex x S => exact h
  | no => exact h
/-- a value whose answer is a test -/
theorem PostB.bindV {m : R W} {f : W → Sto → R W} {Q : Bool → Hp → Prop} {Q' : VK} (h : PostB K cl Wx s r H Q (m.bind f))
    (k : ∀ v S r' H' u, Ge K r H r' H' → Rel K cl r' S H' → RV K r' H' v u → PostB K cl Wx s r' H' Q (f v S) → Q' u H') : Post K cl Wx s r H Q' m := by
  cases m with
  | ok v S => exact fun r' H' u g q rv => k v S r' H' u g q rv (PostB.mono g (show PostB K cl Wx s r H Q (f v S) from h))
  | ex x S => exact h
  | no => exact h
theorem PostB.val {b : Bool} {S : Sto} {Q : Bool → Hp → Prop} (h : PostB K cl Wx s r H Q (.ok (.bl b) S)) (rel : Rel K cl r S H) : Q b H := by
  obtain ⟨b', e, h⟩ := h
  cases e
  exact h r H .refl rel
/-- an operator that tells a truth value -/
theorem PostB.toPost {m : R W} {Q : Bool → Hp → Prop} (h : PostB K cl Wx s r H Q m) : Post K cl Wx s r H (fun u H' => ∃ k, u = .bl k ∧ Q k H') m := by
  cases m with
  | ok v S =>
    obtain ⟨b, e, h⟩ := h
    subst e
    intro r' H' u g q rv
    cases rv
    exact ⟨b, rfl, h r' H' g q⟩
  | ex x S => exact h
  | no => exact h
end
theorem ntF (v : W) (S : Sto) (h : ∀ b, v ≠ .bl b) : (match v with
      | .bl b => R.ok (W.bl (!b)) S
      | _ => R.no) = .no := by
  cases v with
  | bl b => exact absurd rfl (h b)
  | _ => rfl
theorem snd_nt {a : E} (ha : Snd F N c L a) : Snd F N c L (.nt a) := by
  refine .test (fun X Wx x ok tk h => ?_) (fun X Wx x ok tk h => ?_) rfl rfl
  · obtain ⟨l, p, e, h2⟩ := cUn_inv h
    cases e
    refine ⟨fun pins s σ H Q I ⟨r, w, S, rel, sg, p⟩ => (pe_not (ha.pe X Wx _ ok tk h2)).run pins s σ H Q I ⟨r, w, S, rel, sg, ?_⟩⟩
    simp only [eval] at p
    refine p.bind fun x S1 r1 H1 u g1 q1 v1 p1 => ?_
    cases v1 with
    | bl b => exact ⟨b, rfl, p1.val q1 (.bl _)⟩
    | _ => exact False.elim p1
  · obtain ⟨l, p, e, h2⟩ := cUn_inv h
    cases e
    refine ⟨fun pins s σ H Q I ⟨r, w, S, rel, sg, p⟩ => (pt_not (ha.pt X Wx _ ok tk h2)).run pins s σ H Q I ⟨r, w, S, rel, sg, ?_⟩⟩
    simp only [eval] at p
    exact p.bind (fun v S hv => ntF v S hv) fun b S1 r1 H1 g1 q1 p1 => PostB.val p1 q1
theorem andF {α : Type} {g : Sto → R α} {z : α} (v : W) (S : Sto) (h : ∀ b, v ≠ .bl b) : (match v with
      | .bl true => g S
      | .bl false => R.ok z S
      | _ => R.no) = .no := by
  cases v with
  | bl b => exact absurd rfl (h b)
  | _ => rfl
theorem orF {α : Type} {g : Sto → R α} {z : α} (v : W) (S : Sto) (h : ∀ b, v ≠ .bl b) : (match v with
      | .bl true => R.ok z S
      | .bl false => g S
      | _ => R.no) = .no := by
  cases v with
  | bl b => exact absurd rfl (h b)
  | _ => rfl
theorem iteF2 {α : Type} {g g' : Sto → R α} (v : W) (S : Sto) (h : ∀ b, v ≠ .bl b) : (match v with
      | .bl true => g S
      | .bl false => g' S
      | _ => R.no) = .no := by
  cases v with
  | bl b => exact absurd rfl (h b)
  | _ => rfl
theorem snd_and {a b : E} (ha : Snd F N c L a) (hb : Snd F N c L b) : Snd F N c L (.and a b) := by
  refine .test (fun X Wx x ok tk h => ?_) (fun X Wx x ok tk h => ?_) rfl rfl
  · obtain ⟨y, z, rest, p, e, h1, h2⟩ := cBool_inv h
    cases e
    have hB : PE X (.BoolOp .And (z :: rest) p) (tM X.K F.cl Wx (eval c b)) := by
      rcases h2 with ⟨e, h2⟩ | h2
      · subst e; exact pe_one (hb.pe X Wx _ ok tk h2)
      · exact hb.pe X Wx _ ok tk h2
    refine ⟨fun pins s σ H Q I ⟨r, w, S, rel, sg, p⟩ => (pe_and (ha.pe X Wx _ ok tk h1) hB).run pins s σ H Q I ⟨r, w, S, rel, sg, ?_⟩⟩
    simp only [eval] at p
    refine p.bind fun x S1 r1 H1 u g1 q1 v1 p1 => ?_
    cases v1 with
    | bl k =>
      refine ⟨k, rfl, ?_⟩
      cases k with
      | true => exact ⟨r1, w, S1, q1, sg.mono g1, p1⟩
      | false => exact p1.val q1 (.bl _)
    | _ => exact False.elim p1
  · obtain ⟨y, z, rest, p, e, h1, h2⟩ := cBool_inv h
    cases e
    have hB : PW X (.BoolOp .And (z :: rest) p) (tMT X.K F.cl Wx (eval c b)) := by
      rcases h2 with ⟨e, h2⟩ | h2
      · subst e; exact pw_and1 (hb.pt X Wx _ ok tk h2)
      · have := hb.pt X Wx _ ok tk h2
        exact ⟨fun whole pins s σ H Q I q => this.run pins s σ H Q I q⟩
    refine ⟨fun pins s σ H Q I ⟨r, w, S, rel, sg, p⟩ => (PW.pt (pw_and (ha.pt X Wx _ ok tk h1) hB)).run pins s σ H Q I ⟨r, w, S, rel, sg, ?_⟩⟩
    simp only [eval] at p
    refine p.bind (fun v S hv => andF (g := fun S => eval c b w S) v S hv) fun k S1 r1 H1 g1 q1 p1 => ?_
    cases k with
    | true => exact ⟨r1, w, S1, q1, sg.mono g1, p1⟩
    | false => exact PostB.val p1 q1
theorem snd_or {a b : E} (ha : Snd F N c L a) (hb : Snd F N c L b) : Snd F N c L (.or a b) := by
  refine .test (fun X Wx x ok tk h => ?_) (fun X Wx x ok tk h => ?_) rfl rfl
  · obtain ⟨y, z, rest, p, e, h1, h2⟩ := cBool_inv h
    cases e
    have hB : PE X (.BoolOp .Or (z :: rest) p) (tM X.K F.cl Wx (eval c b)) := by
      rcases h2 with ⟨e, h2⟩ | h2
      · subst e; exact pe_one (hb.pe X Wx _ ok tk h2)
      · exact hb.pe X Wx _ ok tk h2
    refine ⟨fun pins s σ H Q I ⟨r, w, S, rel, sg, p⟩ => (pe_or (ha.pe X Wx _ ok tk h1) hB).run pins s σ H Q I ⟨r, w, S, rel, sg, ?_⟩⟩
    simp only [eval] at p
    refine p.bind fun x S1 r1 H1 u g1 q1 v1 p1 => ?_
    cases v1 with
    | bl k =>
      refine ⟨k, rfl, ?_⟩
      cases k with
      | true => exact p1.val q1 (.bl _)
      | false => exact ⟨r1, w, S1, q1, sg.mono g1, p1⟩
    | _ => exact False.elim p1
  · obtain ⟨y, z, rest, p, e, h1, h2⟩ := cBool_inv h
    cases e
    have hB : PW X (.BoolOp .Or (z :: rest) p) (tMT X.K F.cl Wx (eval c b)) := by
      rcases h2 with ⟨e, h2⟩ | h2
      · subst e; exact pw_or1 (hb.pt X Wx _ ok tk h2)
      · have := hb.pt X Wx _ ok tk h2
        exact ⟨fun whole pins s σ H Q I q => this.run pins s σ H Q I q⟩
    refine ⟨fun pins s σ H Q I ⟨r, w, S, rel, sg, p⟩ => (PW.pt (pw_or (ha.pt X Wx _ ok tk h1) hB)).run pins s σ H Q I ⟨r, w, S, rel, sg, ?_⟩⟩
    simp only [eval] at p
    refine p.bind (fun v S hv => orF (g := fun S => eval c b w S) v S hv) fun k S1 r1 H1 g1 q1 p1 => ?_
    cases k with
    | true => exact PostB.val p1 q1
    | false => exact ⟨r1, w, S1, q1, sg.mono g1, p1⟩
theorem last_of {op op' : CmpOp} {y z : Expr} (h : noSet z = true) : lastMarks [op, op'] [y, z] = false := by
  show behindInMarks op' z = false
  exact noset_of h
theorem hu65 {X : Cx} (ok : Ok F N c L X) : X.A.units + 65 < cLine := by have := ok.room.un; omega
theorem snd_cmp {o : Co} {a b : E} (ha : Snd F N c L a) (hb : Snd F N c L b) : Snd F N c L (.cmp o a b) := by
  refine .test (fun X Wx x ok tk h => ?_) (fun X Wx x ok tk h => ?_) rfl rfl
  · obtain ⟨y, z, p, e, h2, h3, h4⟩ := cCmp_inv h
    cases e
    refine ⟨fun pins s σ H Q I ⟨r, w, S, rel, sg, p⟩ => (pe_cmpR (op_cmp (cl := F.cl) (Wx := Wx) (s0 := σ) (hu65 ok) o) (ha.pe X Wx _ ok tk h3) (hb.pe X Wx _ ok tk h4) (noset_of h2)).run pins s σ H Q I ⟨r, w, S, rel, sg, ?_⟩⟩
    simp only [eval] at p
    exact p.bind fun x S1 r1 H1 u g1 q1 v1 p1 => ⟨r1, w, S1, q1, sg.mono g1, p1.bind fun y S2 r2 H2 v g2 q2 v2 p2 => ⟨r2, S2, x, y, q2, v1.mono g2, v2, p2⟩⟩
  · obtain ⟨y, z, p, e, h2, h3, h4⟩ := cCmp_inv h
    cases e
    refine ⟨fun pins s σ H Q I ⟨r, w, S, rel, sg, p⟩ => (pt_cmpR (op_cmp (cl := F.cl) (Wx := Wx) (s0 := σ) (hu65 ok) o) (ha.pe X Wx _ ok tk h3) (hb.pe X Wx _ ok tk h4) (noset_of h2)).run pins s σ H Q I ⟨r, w, S, rel, sg, ?_⟩⟩
    simp only [eval] at p
    exact p.bindV fun x S1 r1 H1 u g1 q1 v1 p1 => ⟨r1, w, S1, q1, sg.mono g1, p1.bindV fun y S2 r2 H2 v g2 q2 v2 p2 => ⟨r2, S2, x, y, q2, v1.mono g2, v2, p2.toPost⟩⟩
theorem snd_chain {o o' : Co} {a b d : E} (ha : Snd F N c L a) (hb : Snd F N c L b) (hd : Snd F N c L d) : Snd F N c L (.chain o o' a b d) := by
  refine .test (fun X Wx x ok tk h => ?_) (fun X Wx x ok tk h => ?_) rfl rfl
  · obtain ⟨x1, y, z, p, e, n2, h3, h4, h5⟩ := cChain_inv h
    cases e
    refine ⟨fun pins s σ H Q I ⟨r, w, S, rel, sg, p⟩ => (pe_chain (op_cmp (cl := F.cl) (Wx := Wx) (s0 := σ) (hu65 ok) o) (op_cmp (cl := F.cl) (Wx := Wx) (s0 := σ) (hu65 ok) o') (ha.pe X Wx _ ok tk h3) (hb.pe X Wx _ ok tk h4) (hd.pe X Wx _ ok tk h5) (last_of n2)).run pins s σ H Q I ⟨r, w, S, rel, sg, ?_⟩⟩
    simp only [eval] at p
    refine p.bind fun x S1 r1 H1 u g1 q1 v1 p1 => ⟨r1, w, S1, q1, sg.mono g1, p1.bind fun y S2 r2 H2 v g2 q2 v2 p2 => ⟨r2, S2, x, y, q2, v1.mono g2, v2, ?_⟩⟩
    refine p2.bind fun k S3 r3 H3 u3 g3 q3 v3 p3 => ?_
    cases v3 with
    | bl k =>
      refine ⟨k, rfl, ?_⟩
      cases k with
      | true => exact ⟨r3, w, S3, q3, ((sg.mono g1).mono g2).mono g3, p3.bind fun z S4 r4 H4 u4 g4 q4 v4 p4 => ⟨r4, S4, y, z, q4, (v2.mono g3).mono g4, v4, p4⟩⟩
      | false => exact p3.val q3 (.bl _)
    | _ => exact False.elim p3
  · obtain ⟨x1, y, z, p, e, n2, h3, h4, h5⟩ := cChain_inv h
    cases e
    refine ⟨fun pins s σ H Q I ⟨r, w, S, rel, sg, p⟩ => (pt_chain (op_cmp (cl := F.cl) (Wx := Wx) (s0 := σ) (hu65 ok) o) (op_cmp (cl := F.cl) (Wx := Wx) (s0 := σ) (hu65 ok) o') (ha.pe X Wx _ ok tk h3) (hb.pe X Wx _ ok tk h4) (hd.pe X Wx _ ok tk h5) (last_of n2)).run pins s σ H Q I ⟨r, w, S, rel, sg, ?_⟩⟩
    simp only [eval] at p
    refine p.bindV fun x S1 r1 H1 u g1 q1 v1 p1 => ⟨r1, w, S1, q1, sg.mono g1, p1.bindV fun y S2 r2 H2 v g2 q2 v2 p2 => ⟨r2, S2, x, y, q2, v1.mono g2, v2, ?_⟩⟩
    refine p2.bindV fun k S3 r3 H3 u3 g3 q3 v3 p3 => ?_
    cases v3 with
    | bl k =>
      refine ⟨k, rfl, ?_⟩
      cases k with
      | true => exact ⟨r3, w, S3, q3, ((sg.mono g1).mono g2).mono g3, p3.bindV fun z S4 r4 H4 u4 g4 q4 v4 p4 => ⟨r4, S4, y, z, q4, (v2.mono g3).mono g4, v4, p4.toPost⟩⟩
      | false => exact ⟨false, rfl, PostB.val p3 q3⟩
    | _ => exact False.elim p3
end
end D
end

section
set_option maxHeartbeats 1000000
/-! Calls, attributes, displays, slices. -/
namespace D
open PySem PySem.Spec PyProof.Rows L2

section
variable {F : Fx} {N : List Str} {c : Call} {L : Nat}
theorem snd_ife {t a b : E} (ht : Snd F N c L t) (ha : Snd F N c L a) (hb : Snd F N c L b) : Snd F N c L (.ife t a b) := by
  refine .test (fun X Wx x ok tk h => ?_) (fun X Wx x ok tk h => ?_) rfl rfl
  · obtain ⟨y, z, v, p, e, h1, h2, h3⟩ := cIf_inv h
    cases e
    refine ⟨fun pins s σ H Q I ⟨r, w, S, rel, sg, p⟩ => (pe_ifExp (ht.pt X Wx _ ok tk h1) (ha.pe X Wx _ ok tk h2) (hb.pe X Wx _ ok tk h3)).run pins s σ H Q I ⟨r, w, S, rel, sg, ?_⟩⟩
    simp only [eval] at p
    refine p.bindB (fun v S hv => iteF2 (g := fun S => eval c a w S) (g' := fun S => eval c b w S) v S hv) fun k S1 r1 H1 g1 q1 p1 => ?_
    cases k with
    | true => exact ⟨r1, w, S1, q1, sg.mono g1, p1⟩
    | false => exact ⟨r1, w, S1, q1, sg.mono g1, p1⟩
  · obtain ⟨y, z, v, p, e, h1, h2, h3⟩ := cIf_inv h
    cases e
    refine ⟨fun pins s σ H Q I ⟨r, w, S, rel, sg, p⟩ => ?_⟩
    simp only [eval] at p
    show wpAny _ _ (isTrue y X.env (PySem.eval y X.env) >>= fun b => if b = true then isTrue z X.env (PySem.eval z X.env) else isTrue v X.env (PySem.eval v X.env)) _ _ _
    have q : PostB X.K F.cl Wx σ r H (fun k H1 => if k = true then tMT X.K F.cl Wx (eval c a) σ H1 Q else tMT X.K F.cl Wx (eval c b) σ H1 Q) (eval c t w S) :=
      p.bind (fun v S hv => iteF2 (g := fun S => eval c a w S) (g' := fun S => eval c b w S) v S hv) fun k S1 r1 H1 g1 q1 p1 => by
        cases k with
        | true => exact ⟨r1, w, S1, q1, sg.mono g1, p1⟩
        | false => exact ⟨r1, w, S1, q1, sg.mono g1, p1⟩
    refine wpAny_bind (thn ((ht.pt X Wx _ ok tk h1).run pins s σ H _ I ⟨r, w, S, rel, sg, q⟩) fun b s1 ⟨H1, I1, q1⟩ => ?_)
    cases b with
    | true => exact (ha.pt X Wx _ ok tk h2).run pins s1 σ H1 Q I1 q1
    | false => exact (hb.pt X Wx _ ok tk h3).run pins s1 σ H1 Q I1 q1
theorem rfs_look {K : PySem.W.Frag} {r : Rho} {H : Hp} {fs : List (Nm × W)} {us : List (Str × V)} (h : RFs K r H fs us) (f : Nm) : (∀ w, fld fs f = some w → ∃ v, us.lookup f.str = some v ∧ RV K r H w v) ∧ (fld fs f = none → us.lookup f.str = none) := by
  induction h with
  | nil => exact ⟨fun w e => (nomatch e), fun _ => rfl⟩
  | cons h t ih =>
    rename_i p q l1 l2
    obtain ⟨qn, qv⟩ := q
    obtain ⟨h1, h2⟩ := h
    dsimp only at h1 h2
    by_cases e : p.1 = f
    · have e2 : (f.str == qn) = true := by rw [beq_iff_eq, ← h1, e]
      simp only [fld, if_pos e, List.lookup, e2]
      exact ⟨fun w g => ⟨qv, rfl, by cases g; exact h2⟩, fun g => by cases g⟩
    · have e2 : (f.str == qn) = false := beq_eq_false_iff_ne.mpr fun z => e (Nm.inj (h1.trans z.symm))
      simp only [fld, if_neg e, List.lookup, e2]
      exact ih
theorem snd_attr {o : E} {f : Nm} (ho : Snd F N c L o) : Snd F N c L (.attr o f) := by
  refine .plain (fun X Wx x ok tk h => ?_) (fun X x h => ?_) rfl rfl
  · obtain ⟨y, p, e, h1, h2, h3⟩ := cAttr_inv h
    cases e
    refine ⟨fun pins s σ H Q I ⟨r, w, S, rel, sg, p⟩ => (pe_fld (f := f.str) (ho.pe X Wx _ ok tk h3) (sup_of h1)).run pins s σ H Q I ⟨r, w, S, rel, sg, ?_⟩⟩
    simp only [eval] at p
    refine p.bind fun x S1 r1 H1 u g1 q1 v1 p1 => ?_
    cases v1 with
    | ref e1 =>
      rename_i n a
      dsimp only at p1
      split at p1
      · rename_i k fs g
        obtain ⟨dx, us, a1, hf, hc⟩ := q1.ins e1 g
        split at p1
        · rename_i y g2
          obtain ⟨v, e2, rv⟩ := (rfs_look hf f).1 y g2
          exact ⟨a, _, dx, us, v, rfl, a1, (ok.fa.cls k hc).2, ok.fa.noat k hc f (List.contains_iff_mem.mp h2), e2, p1.val q1 rv⟩
        · exact False.elim p1
      · exact False.elim p1
    | _ => exact False.elim p1
  · obtain ⟨y, p, e, h1, h2, h3⟩ := cAttr_inv h
    cases e
    intro _; rfl
theorem snd_ix {a i : E} (ha : Snd F N c L a) (hi : Snd F N c L i) : Snd F N c L (.ix a i) := by
  refine .plain (fun X Wx x ok tk h => ?_) (fun X x h => ?_) rfl rfl
  · obtain ⟨y, z, p, e, h1, h2, h3⟩ := cIx_inv h
    cases e
    refine ⟨fun pins s σ H Q I ⟨r, w, S, rel, sg, p⟩ => (pe_ix (ix_ok (cl := F.cl) (Wx := Wx) (s0 := σ) (by have := hu65 ok; omega)) (ha.pe X Wx _ ok tk h2) (hi.pe X Wx _ ok tk h3) (plainIx_of h1)).run pins s σ H Q I ⟨r, w, S, rel, sg, ?_⟩⟩
    simp only [eval] at p
    exact p.bind fun x S1 r1 H1 u g1 q1 v1 p1 => ⟨r1, w, S1, q1, sg.mono g1, p1.bind fun y S2 r2 H2 v g2 q2 v2 p2 => ⟨r2, S2, x, y, q2, v1.mono g2, v2, p2⟩⟩
  · obtain ⟨y, z, p, e, h1, h2, h3⟩ := cIx_inv h
    cases e
    intro _; rfl
/-- a slice's part -/
def PostP (K : PySem.W.Frag) (cl : List Nm) (Wx : WX) (s : L2.St) (r : Rho) (H : Hp) (Q : Option Int → Hp → Prop) : R W → Prop
  | .ok v S' => ∀ r' H', Ge K r H r' H' → Rel K cl r' S' H' → Q (partO v) H'
  | .ex x S' => ∀ r' H' d, Ge K r H r' H' → Rel K cl r' S' H' → XR K r' H' x d → Wx (xc K x) d s H'
  | .no => False
def tPartM (K : PySem.W.Frag) (cl : List Nm) (Wx : WX) (m : Env → Sto → R W) : TO := fun σ H Q => ∃ r w S, Rel K cl r S H ∧ RSig K r H w σ ∧ PostP K cl Wx σ r H Q (m w S)
theorem Post.bindP {K : PySem.W.Frag} {cl : List Nm} {Wx : WX} {s : L2.St} {r : Rho} {H : Hp} {m : R W} {f : W → Sto → R W} {Q : VK} {Q' : Option Int → Hp → Prop} (h : Post K cl Wx s r H Q (m.bind f))
    (k : ∀ v S r' H', Ge K r H r' H' → Rel K cl r' S H' → Post K cl Wx s r' H' Q (f v S) → Q' (partO v) H') : PostP K cl Wx s r H Q' m := by
  cases m with
  | ok v S => exact fun r' H' g q => k v S r' H' g q (Post.mono g (show Post K cl Wx s r H Q (f v S) from h))
  | ex x S => exact h
  | no => exact h
/-- a part's run -/
def partM (c : Call) (e : E) : Env → Sto → R W := fun w S => match e with
  | .no => .ok .non S
  | _ => (eval c e w S).bind intR
theorem po_ok {X : Cx} {Wx : WX} {e : E} (he : Snd F N c L e) (ok : Ok F N c L X) (tk : Takes X Wx) {l : Option Expr} (h : ifNo e (chk F N e .e X.env.scope) (optL l) = true) : PO X l (tPartM X.K F.cl Wx (partM c e)) := by
  have hc : e = .no ∨ (∀ w S, partM c e w S = (eval c e w S).bind intR) ∧ chk F N e .e X.env.scope (optL l) = true := by
    cases e <;> first | exact .inl rfl | exact .inr ⟨fun _ _ => rfl, h⟩
  rcases hc with e1 | ⟨hn, h⟩
  · subst e1
    cases l with
    | none => exact ⟨fun pins s σ H Q I ⟨r, w, S, rel, sg, p⟩ => po_none.run pins s σ H Q I (p r H .refl rel)⟩
    | some x => cases h
  · cases l with
    | none =>
      exfalso
      have h' : chk F N e .e X.env.scope [] = true := h
      cases e <;> first | cases h' | (have q := (band h').2; cases q) | (unfold chk cBi2 cBi at h'; cases h')
    | some x =>
      refine ⟨fun pins s σ H Q I ⟨r, w, S, rel, sg, p⟩ => (po_some (he.pe X Wx x ok tk h)).run pins s σ H Q I ⟨r, w, S, rel, sg, ?_⟩⟩
      rw [hn] at p
      cases e1 : eval c e w S with
      | ok v S' =>
        rw [e1] at p
        intro r' H' u g q rv
        cases rv with
        | int i => exact ⟨i, rfl, p r' H' g q⟩
        | _ => exact False.elim p
      | ex y S' => rw [e1] at p; exact p
      | no => rw [e1] at p; exact p
theorem snd_sl {a lo hi : E} (ha : Snd F N c L a) (hl : Snd F N c L lo) (hh : Snd F N c L hi) : Snd F N c L (.sl a lo hi) := by
  refine .plain (fun X Wx x ok tk h => ?_) (fun X x h => ?_) rfl rfl
  · obtain ⟨y, l, u, p, q, e, h1, h2, h3⟩ := cSl_inv h
    cases e
    refine ⟨fun pins s σ H Q I ⟨r, w, S, rel, sg, p⟩ => (pe_slice (sl_ok (cl := F.cl) (Wx := Wx) (s0 := σ)) (ha.pe X Wx _ ok tk h1) (po_ok hl ok tk h2) (po_ok hh ok tk h3)).run pins s σ H Q I ⟨r, w, S, rel, sg, ?_⟩⟩
    have p' : Post X.K F.cl Wx σ r H Q ((eval c a w S).bind fun x S => (partM c lo w S).bind fun l S => (partM c hi w S).bind fun h S => sliceW x (partO l) (partO h) S) := p
    exact p'.bind fun x S1 r1 H1 u g1 q1 v1 p1 => ⟨r1, w, S1, q1, sg.mono g1, p1.bindP fun l S2 r2 H2 g2 q2 p2 => ⟨r2, w, S2, q2, (sg.mono g1).mono g2, p2.bindP fun h S3 r3 H3 g3 q3 p3 => ⟨r3, S3, x, q3, (v1.mono g2).mono g3, p3⟩⟩⟩
  · obtain ⟨y, l, u, p, q, e, h1, h2, h3⟩ := cSl_inv h
    cases e
    intro _; rfl
theorem snd_rev {a : E} (ha : Snd F N c L a) : Snd F N c L (.rev a) := by
  refine .plain (fun X Wx x ok tk h => ?_) (fun X x h => ?_) rfl rfl
  · obtain ⟨y, n, p, p1, p2, p3, e, h1⟩ := cRev_inv h
    cases e
    refine ⟨fun pins s σ H Q I ⟨r, w, S, rel, sg, p⟩ => (pe_revL (ha.pe X Wx _ ok tk h1)).run pins s σ H Q I ⟨r, w, S, rel, sg, ?_⟩⟩
    simp only [eval] at p
    refine p.bind fun x S1 r1 H1 u g1 q1 v1 p1 => ?_
    cases v1 with
    | ref e1 =>
      rename_i m a
      simp only [revW] at p1
      split at p1
      · rename_i xs g
        obtain ⟨vs, a1, h1⟩ := q1.lst e1 g
        exact ⟨_, vs, rfl, SqL.of a1, p1.mk q1 (.lst h1.reverse)⟩
      · exact False.elim p1
    | _ => exact False.elim p1
  · obtain ⟨y, n, p, p1, p2, p3, e, h1⟩ := cRev_inv h
    cases e
    intro _; rfl
/-- arguments alone -/
theorem Snd.args {e : E} (no : ∀ (sc : Scope) (x : Expr), chk F N e .e sc [x] = false) (no2 : ∀ (sc : Scope) (x : Expr), chk F N e .i sc [x] = false)
    (pa : ∀ (X : Cx) (Wx : WX) (xs : List Expr), Ok F N c L X → Takes X Wx → isArgs e = true → chk F N e .a X.env.scope xs = true → PA X xs (tMA X.K F.cl Wx (eval c e)) ∧ xs.all plainE = true)
    (pk : ∀ (X : Cx) (Wx : WX) (pos : Pos) (ks : List (Option Expr)) (vs : List Expr), Ok F N c L X → Takes X Wx → isKv e = true → ks.all (·.isSome) = true → ks.length = vs.length → chk F N e .a X.env.scope (zipKV ks vs) = true → PPs X pos ks vs (trs X.K F.cl Wx c e)) : Snd F N c L e where
  pe := fun X Wx x ok tk h => by rw [no] at h; cases h
  pt := fun X Wx x ok tk h => by rw [no] at h; cases h
  pa := pa
  pi := fun X Wx tg x ok tk h => by rw [no2] at h; cases h
  pk := pk
theorem zip_nil {ks : List (Option Expr)} {vs : List Expr} (h1 : ks.all (·.isSome) = true) (h2 : ks.length = vs.length) (h : zipKV ks vs = []) : ks = [] ∧ vs = [] := by
  cases ks with
  | nil => cases vs with
    | nil => exact ⟨rfl, rfl⟩
    | cons _ _ => cases h2
  | cons k ks => cases vs with
    | nil => cases h2
    | cons v vs => cases k with
      | none => cases h1
      | some k => cases h
theorem snd_nil : Snd F N c L .nil := by
  refine .args (fun _ _ => rfl) (fun _ _ => rfl) (fun X Wx xs ok tk _ h => ?_) fun X Wx pos ks vs ok tk _ h1 h2 h => ?_
  · have e := cNil_inv (show cNil xs = true from h)
    subst e
    exact ⟨PA.imp pa_nil fun σ H Q ⟨r, w, S, rel, sg, p⟩ => p r H [] .refl rel .nil, rfl⟩
  · obtain ⟨e1, e2⟩ := zip_nil h1 h2 (cNil_inv (show cNil _ = true from h))
    subst e1 e2
    exact pps_nil
theorem snd_no : Snd F N c L .no := .args (fun _ _ => rfl) (fun _ _ => rfl) (fun X Wx xs ok tk z h => by cases z) fun X Wx pos ks vs ok tk z => by cases z
theorem snd_cons {a b : E} (ha : Snd F N c L a) (hb : Snd F N c L b) : Snd F N c L (.cons a b) := by
  refine .args (fun _ _ => rfl) (fun _ _ => rfl) (fun X Wx xs ok tk hb1 h => ?_) fun X Wx pos ks vs ok tk z => by cases z
  obtain ⟨e, es, e1, h1, h2, h3⟩ := cCons_inv (show cCons _ _ xs = true from h)
  subst e1
  obtain ⟨hp, hs⟩ := hb.pa X Wx es ok tk hb1 h3
  refine ⟨PA.imp (pa_cons (ha.pe X Wx e ok tk h2) hp (star1 h1)) fun σ H Q ⟨r, w, S, rel, sg, p⟩ => ⟨r, w, S, rel, sg, ?_⟩, by rw [List.all_cons, h1, hs]; rfl⟩
  simp only [eval] at p
  exact PostA.bind p fun x S1 r1 H1 u g1 q1 v1 p1 => ⟨r1, w, S1, q1, sg.mono g1, PostA.bindA p1 fun t S2 r2 H2 us g2 q2 v2 p2 => p2 r2 H2 (u :: us) .refl q2 (.cons (v1.mono g2) v2)⟩
theorem snd_kv {k v b : E} (hk : Snd F N c L k) (hv : Snd F N c L v) (hb : Snd F N c L b) : Snd F N c L (.kv k v b) := by
  refine .args (fun _ _ => rfl) (fun _ _ => rfl) (fun X Wx xs ok tk z => by cases z) fun X Wx pos ks vs ok tk z h1 h2 h => ?_
  obtain ⟨x, y, es, e1, h3, h4, h5⟩ := cKv_inv (show cKv _ _ _ _ = true from h)
  cases ks with
  | nil => cases e1
  | cons q ks => cases vs with
    | nil => cases h2
    | cons v' vs => cases q with
      | none => cases h1
      | some k' =>
        cases e1
        exact pps_cons (hk.pe X Wx _ ok tk h3) (hv.pe X Wx _ ok tk h4) (hb.pk X Wx pos ks vs ok tk z h1 (by simpa using h2) h5)
theorem args_len {c : Call} {σ : Env} {v : W} : ∀ {es : E} {S S' : Sto}, isArgs es = true → eval c es σ S = .ok v S' → ∃ xs, v = .tup xs ∧ xs.length = argN es := by
  intro es
  induction es generalizing v with
  | nil => intro S S' _ h; cases h; exact ⟨[], rfl, rfl⟩
  | cons a r _ ih =>
    intro S S' h1 h
    simp only [eval] at h
    cases e1 : eval c a σ S with
    | ok x S1 =>
      rw [e1] at h
      have h : (eval c r σ S1).bind (fun t S => R.ok (.tup (x :: tupOf t)) S) = .ok v S' := h
      cases e2 : eval c r σ S1 with
      | ok t S2 =>
        rw [e2] at h
        cases h
        obtain ⟨xs, e3, e4⟩ := ih (show isArgs r = true from h1) e2
        subst e3
        exact ⟨_, rfl, by simp [tupOf, argN, e4]⟩
      | ex y S2 => rw [e2] at h; cases h
      | no => rw [e2] at h; cases h
    | ex y S1 => rw [e1] at h; cases h
    | no => rw [e1] at h; cases h
  | _ => intro _ _ h1; cases h1
theorem Post.argsA {K : PySem.W.Frag} {cl : List Nm} {Wx : WX} {s : L2.St} {r : Rho} {H : Hp} {c : Call} {es : E} {σ : Env} {S : Sto} {f : W → Sto → R W} {Q : VK} {Q' : List V → Hp → Prop} (ha : isArgs es = true) (h : Post K cl Wx s r H Q ((eval c es σ S).bind f))
    (k : ∀ ws S r' H' us, ws.length = argN es → Ge K r H r' H' → Rel K cl r' S H' → RVs K r' H' ws us → Post K cl Wx s r' H' Q (f (.tup ws) S) → Q' us H') : PostA K cl Wx s r H Q' (eval c es σ S) := by
  cases e : eval c es σ S with
  | ok v S' =>
    rw [e] at h
    obtain ⟨ws, e1, e2⟩ := args_len ha e
    subst e1
    exact fun r' H' us g q rv => k ws S' r' H' us e2 g q rv (Post.mono g (show Post K cl Wx s r H Q (f (.tup ws) S') from h))
  | ex x S' => rw [e] at h; exact h
  | no => rw [e] at h; exact h
theorem small_line {n : Nat} (h : n ≤ 1000) : n ≤ sizeLine := by rw [sizeLine_eq]; omega
def tTup2 (t : TA) : TE := fun σ H Q => t σ H fun xs H1 => xs.length ≤ sizeLine ∧ ∀ p o, o.dict = none → H1 p = none → Q (.ref p) (upd H1 p (.frz o (.tup xs)))
theorem pe_tup2 {X : Cx} {es : List Expr} {t : TA} {x1 : Nat} {pos : Pos} (h : PA X es t) : PE X (.Tuple es x1 pos) (tTup2 t) :=
  ⟨fun pins s σ H Q I hq => wpAny_Tuple_spliced (thn (h.run pos pins s σ H _ I hq) fun us s1 ⟨xs, H1, I1, r, z, q⟩ => ⟨by rw [← r.length]; exact z, .ref _, _, tup_laid (t' := s1.toks) I1 r z, rfl, q _ _ rfl (I1.hok.fresh (Nat.le_refl _))⟩)⟩
theorem snd_tup {es : E} (he : Snd F N c L es) : Snd F N c L (.tup es) := by
  refine .plain (fun X Wx x ok tk h => ?_) (fun X x h => ?_) rfl rfl
  · obtain ⟨h0, h⟩ := band h
    obtain ⟨h0, hn⟩ := band h0
    obtain ⟨xs, n, p, e, h1⟩ := cTup_inv h
    cases e
    obtain ⟨hp, hs⟩ := he.pa X Wx xs ok tk h0 h1
    refine ⟨fun pins s σ H Q I ⟨r, w, S, rel, sg, p⟩ => (pe_tup2 hp).run pins s σ H Q I ⟨r, w, S, rel, sg, ?_⟩⟩
    simp only [eval] at p
    refine Post.argsA h0 p fun ws S1 r1 H1 us el g1 q1 v1 p1 => ⟨?_, Post.tup p1 q1 v1⟩
    rw [← v1.length, el]
    exact small_line (dec_of hn)
  · obtain ⟨h0, h⟩ := band h
    obtain ⟨xs, n, p, e, h1⟩ := cTup_inv h
    cases e
    intro _; rfl
theorem snd_lst {es : E} (he : Snd F N c L es) : Snd F N c L (.lst es) := by
  refine .plain (fun X Wx x ok tk h => ?_) (fun X x h => ?_) rfl rfl
  · obtain ⟨h0, h⟩ := band h
    obtain ⟨h0, hn⟩ := band h0
    obtain ⟨xs, p, e, h1⟩ := cLst_inv h
    cases e
    obtain ⟨hp, hs⟩ := he.pa X Wx xs ok tk h0 h1
    refine ⟨fun pins s σ H Q I ⟨r, w, S, rel, sg, p⟩ => (pe_lst hp).run pins s σ H Q I ⟨r, w, S, rel, sg, ?_⟩⟩
    simp only [eval] at p
    refine Post.argsA h0 p fun ws S1 r1 H1 us el g1 q1 v1 p1 => ⟨?_, Post.mk p1 q1 (.lst v1)⟩
    rw [← v1.length, el]
    exact small_line (dec_of hn)
  · obtain ⟨h0, h⟩ := band h
    obtain ⟨xs, p, e, h1⟩ := cLst_inv h
    cases e
    intro _; rfl
theorem Post.conv {K : PySem.W.Frag} {cl : List Nm} {Wx : WX} {s : L2.St} {r : Rho} {H : Hp} {Q : VK} {m : R W} (h : Post K cl Wx s r H Q m) : Post K cl (fun c d _ H => Wx c d s H) [] r H Q m := by
  cases m with
  | ok v S => exact h
  | ex x S => exact h
  | no => exact h
/-- a callee's promise, met -/
theorem spF_of {X : Cx} {Wx : WX} {σ : L2.St} {H : Hp} {r : Rho} {S : Sto} {Q : VK} {f : Fk} {d : Df} {ws : List W} {us : List V} (fn : Fns F c L X) (hT : F.T f = some d) (rel : Rel X.K F.cl r S H) (rv : RVs X.K r H ws us) (p : Post X.K F.cl Wx σ r H Q (c f ws S)) :
    spF X.K F.cl d.np (c f) us H Q (WE Wx σ) := by
  refine ⟨?_, r, S, ws, rel, rv, p.conv⟩
  by_cases e : ws.length = d.np
  · rw [← e, rv.length]
  · rw [fn.len f d ws S hT e] at p
    exact False.elim p
theorem T_some {X : Cx} {Wx : WX} {σ : L2.St} {H : Hp} {r : Rho} {S : Sto} {Q : VK} {f : Fk} {ws : List W} (fn : Fns F c L X) (p : Post X.K F.cl Wx σ r H Q (c f ws S)) : ∃ d, F.T f = some d := by
  cases e : F.T f with
  | none => rw [fn.non f ws S e] at p; exact False.elim p
  | some d => exact ⟨d, rfl⟩
theorem args_nil {as : E} {sc : Scope} (h : isArgs as = true) (h2 : chk F N as .a sc [] = true) : as = .nil := by
  cases as <;> first | rfl | cases h | cases h2
theorem snd_call {f : Nm} {as : E} (ha : Snd F N c L as) : Snd F N c L (.call f as) := by
  refine .plain (fun X Wx x ok tk h => ?_) (fun X x h => ?_) rfl rfl
  · obtain ⟨p, es, q, e, h1, h2, h3, h4⟩ := cCall_inv h
    cases e
    obtain ⟨h0, h3⟩ := band h3
    have hm := ok.fa.fn f (List.contains_iff_mem.mp h3)
    obtain ⟨hp, hs⟩ := ha.pa X Wx es ok tk h0 h4
    refine ⟨fun pins s σ H Q I ⟨r, w, S, rel, sg, p⟩ => ?_⟩
    simp only [eval] at p
    have go : tMA X.K F.cl Wx (eval c as) σ H fun us H1 => ∃ d, F.T (.fn f) = some d ∧ spF X.K F.cl d.np (c (.fn f)) us H1 Q (WE Wx σ) :=
      ⟨r, w, S, rel, sg, Post.argsA h0 p fun ws S1 r1 H1 us el g1 q1 v1 p1 => by
        obtain ⟨d, hT⟩ := T_some ok.fns p1
        exact ⟨d, hT, spF_of ok.fns hT q1 v1 p1⟩⟩
    refine wpAny_Call_Name_kw (ld_glob I (gl_of h1 rfl) hm ?_ (bnot h2))
    have fin : ∀ us' s1 us H1, Inv X pins σ H1 s1 → Vals us us' → (∃ d, F.T (.fn f) = some d ∧ spF X.K F.cl d.np (c (.fn f)) us H1 Q (WE Wx σ)) → wpAny (model X.prog X.w) X.A (PySem.call (.ref (He.fAd X.K (f.str, none))) us') (EP X pins σ Q) X.xe s1 := fun us' s1 us H1 I1 rr ⟨d, hT, sp⟩ => by
      obtain ⟨fd, ps, hl, FO, hb, _⟩ := ok.fns.ok (.fn f) d hT
      exact run_fnS (E := WE Wx) FO (ok.room.mono (Nat.le_succ _)) hb (passAt tk σ) I1 rr sp
    have hk := ok.fa.keep (.fn f) (List.contains_iff_mem.mp h3)
    cases es with
    | nil =>
      have e0 := args_nil h0 h4
      subst e0
      obtain ⟨r, w, S, rel, sg, p⟩ := go
      exact PySem.W.callWith_K0 I.kIn hk (fin [] s [] H I .nil (p r H [] .refl rel .nil))
    | cons e es =>
      rw [List.all_cons, Bool.and_eq_true] at hs
      exact PySem.W.callWith_K (h₀ := X.base) I.ok.mod.kin hk (thn (hp.run q pins s σ H _ I go) fun us' s1 ⟨us, H1, I1, rr, q1⟩ => ⟨I1.kIn, fin us' s1 us H1 I1 rr q1⟩) (star1 hs.1) (stars hs.2)
  · obtain ⟨p, es, q, e, h1, h2, h3, h4⟩ := cCall_inv h
    cases e
    intro _; rfl
theorem form_of {es : List Expr} {env : PySem.Env} {pos : Pos} (hs : es.all plainE = true) (hn : es.length < 30) : methodCallForm (es.length + ([] : List Keyword).length) (backTo pos (starEach es env)) (backToKw pos (keywordEach [] env)) = true := by
  unfold methodCallForm
  rw [stars_all hs]
  show decide (es.length + 0 + (if true = true then 0 else 1) < 30) = true
  exact decide_eq_true (by simpa using hn)
theorem meth_eval {o : Expr} {name : Str} {es : List Expr} {apos pos : Pos} {env : PySem.Env} (hb : noSup o = true) (hl : apos.endLine = pos.line) (hs : es.all plainE = true) (hn : es.length < 30) :
    PySem.eval (.Call (.Attribute o name apos) es [] pos) env = (do
      let ov ← PySem.eval o env
      standAt apos.atName
      let (f, first) ← holding [ov] (getMethod ov name (do return (← importBound o env).getD true))
      callWith pos f first (backTo pos (starEach es env)) (backToKw pos (keywordEach [] env))) := by
  rw [arm_eval_Call, sup_of hb]
  unfold methodCall calleeOf methodCallPos
  rw [form_of hs hn]
  simp only [hl, beq_self_eq_true, Bool.not_true, Bool.false_or, if_true]
  rfl
theorem Post.noex {K : PySem.W.Frag} {cl : List Nm} {Wx : WX} {s : L2.St} {r : Rho} {H : Hp} {m : R W} {f : W → Sto → R W} {Q : VK} (h : Post K cl Wx s r H Q (m.noex.bind f)) : ∃ v S, m = .ok v S ∧ Post K cl Wx s r H Q (f v S) := by
  cases m with
  | ok v S => exact ⟨v, S, rfl, h⟩
  | ex x S => exact False.elim h
  | no => exact False.elim h
theorem snd_meth {o : E} {m : Nm} {as : E} (ho : Snd F N c L o) (ha : Snd F N c L as) : Snd F N c L (.meth o m as) := by
  refine .plain (fun X Wx x ok tk h => ?_) (fun X x h => ?_) rfl rfl
  · obtain ⟨y, p, es, q, e, h1, h2, h0, h4, h5⟩ := cMeth_inv h
    cases e
    obtain ⟨hA, hn⟩ := band h0
    obtain ⟨hp, hs⟩ := ha.pa X Wx es ok tk hA h5
    refine ⟨fun pins s σ H Q I ⟨r, w, S, rel, sg, p⟩ => ?_⟩
    simp only [eval] at p
    have go : tM X.K F.cl Wx (eval c o) σ H fun u H1 => ∃ a k dx fs, u = .ref a ∧ H1 a = some (.ins (He.ga X.K k.str) dx fs) ∧ k ∈ F.cl ∧ fs.lookup m.str = none ∧ ∃ d, F.T (.me k m) = some d ∧
        tMA X.K F.cl Wx (eval c as) σ H1 fun us H2 => spF X.K F.cl d.np (c (.me k m)) (.ref a :: us) H2 Q (WE Wx σ) := by
      refine ⟨r, w, S, rel, sg, p.bind fun x S1 r1 H1 u g1 q1 v1 p1 => ?_⟩
      cases v1 with
      | ref e1 =>
        rename_i n a
        dsimp only at p1
        split at p1
        · rename_i k fs g
          obtain ⟨dx, us, a1, hf, hc⟩ := q1.ins e1 g
          split at p1
          · rename_i g2
            obtain ⟨ws, S2, ev, p2⟩ := Post.noex p1
            obtain ⟨d, hT⟩ := T_some ok.fns p2
            refine ⟨a, k, dx, us, rfl, a1, hc, (rfs_look hf m).2 g2, d, hT, r1, w, S1, q1, sg.mono g1, ?_⟩
            rw [ev]
            intro r2 H2 us g2 q2 v2
            exact spF_of ok.fns hT q2 (.cons (.ref (g2.ext _ _ e1)) v2) (p2.mono g2)
          · exact False.elim p1
        · exact False.elim p1
      | _ => exact False.elim p1
    refine PySem.W.methodCall_KW (thn ((ho.pe X Wx _ ok tk h4).run pins s σ H _ I go) fun u s1 ⟨x, H1, I1, rx, a, k, dx, fs, ex, ea, hc, hl, d, hT, go2⟩ => ?_) (meth_eval h1 h2 hs (dec_of hn))
    subst ex
    cases (show u = Value.ref a from rx)
    have hM : Fk.me k m ∈ F.fns := ok.fa.tab (.me k m) (by rw [hT]; exact Option.some_ne_none d)
    refine getmeth_ok I1 ea (ok.fa.cls k hc).2 (ok.fa.meth k m hM) hl ?_
    have hk := ok.fa.keep (.me k m) hM
    have fin : ∀ us' s2 us H2, Inv X pins σ H2 s2 → Vals us us' → spF X.K F.cl d.np (c (.me k m)) (.ref a :: us) H2 Q (WE Wx σ) → wpAny (model X.prog X.w) X.A (PySem.call (.ref (He.fAd X.K (k.str, some m.str))) (.ref a :: us')) (EP X pins σ Q) X.xe s2 := fun us' s2 us H2 I2 rr sp => by
      obtain ⟨fd, ps, hl, FO, hb, _⟩ := ok.fns.ok (.me k m) d hT
      exact run_fnS (E := WE Wx) FO (ok.room.mono (Nat.le_succ _)) hb (passAt tk σ) I2 (.cons (show RelV (.ref a) (.ref a) from rfl) rr) sp
    cases es with
    | nil =>
      have e0 := args_nil hA h5
      subst e0
      obtain ⟨r, w, S, rel, sg, p⟩ := go2
      exact PySem.W.callWith_K0 (first := [.ref a]) I1.kIn hk (fin [] s1 [] H1 I1 .nil (p r H1 [] .refl rel .nil))
    | cons e es =>
      rw [List.all_cons, Bool.and_eq_true] at hs
      exact PySem.W.callWith_K (first := [.ref a]) (h₀ := X.base) I1.ok.mod.kin hk (thn (hp.run q pins s1 σ H1 _ I1 go2) fun us' s2 ⟨us, H2, I2, rr, q1⟩ => ⟨I2.kIn, fin us' s2 us H2 I2 rr q1⟩) (star1 hs.1) (stars hs.2)
  · obtain ⟨y, p, es, q, e, h1, h2, h0, h4, h5⟩ := cMeth_inv h
    cases e
    intro _; rfl
end
end D
end

section
set_option maxHeartbeats 1000000
/-! New instances, dict displays, ranges, isinstance. -/
namespace D
open PySem PySem.Spec PyProof.Rows L2

/-- a class is called: what the exception wishes stands at the caller's slots -/
theorem make_at {X : Cx} {CX : CXT} {k : Nat} {C f : Addr} {fd : FuncData} {ps : List Str} {sp : Sp} {E : XK} {pins : List (Addr × Obj)} {σ : L2.St} {H : Hp} {s : Shared} {Q : VK} {us : List Value} {vs : List V}
    (M : Mk X.K C f) (F : FnOk X.prog X.w X.K X.mg X.base CX k f fd ps sp) (hr : Room (k + 1) X.A) (hb : Binds X.K fd ps []) (hx : PassesAt CX X σ E) (I : Inv X pins σ H s) (r : Vals vs us)
    (h : ∀ x dx, H x = none → H dx = none → dx ≠ x → sp (.ref x :: vs) (upd (upd H dx (.own x)) x (.ins C dx [])) (fun v H2 => v = .non ∧ Q (.ref x) H2) E) :
    wpAny (model X.prog X.w) X.A (call (.ref C) us) (EP X pins σ Q) X.xe s := by
  generalize hz : s.heap.objs.size = z
  have h1 := h (z + 1) z (I.hok.fresh (by rw [hz]; exact Nat.le_succ _)) (I.hok.fresh (by rw [hz]; exact Nat.le_refl _)) (Nat.ne_of_lt (Nat.lt_succ_self _))
  have I2 := Inv.made (C := C) I
  rw [hz] at I2
  have rr : Vals (V.ref (z + 1) :: vs) (Value.ref (z + 1) :: us) := .cons (show RelV (.ref (z + 1)) (.ref (z + 1)) from rfl) r
  have hl : (Value.ref (z + 1) :: us).length = ps.length := by rw [← rr.length]; exact F.len _ _ _ _ h1
  have bb := hb _ (Value.ref (z + 1) :: us) I2.kIn (by rw [List.append_nil]; exact hl)
  rw [List.append_nil] at bb
  have go := F.run _ X.stack _ _ ⟨Value.ref (z + 1) :: us, []⟩ (Value.ref (z + 1) :: us) _ _ E (hr.make C us []) (I2.env0.make C us []) bb rr h1
  rw [← hz] at go I2
  refine wpAny_call (make_map (f := f) I.kIn M.makes M.init (beq_iff_eq.mp M.fn) (codeAny_mono go fun res s' hq => ?_))
  cases res with
  | error e => exact hx pins _ _ e s' I2 hq
  | ok fl => cases fl with
    | ret u =>
      obtain ⟨v, H', I3, rv, ev, q3⟩ := I2.after hq
      subst ev
      exact ⟨rv, V.ref (s.heap.objs.size + 1), H', I3, rfl, q3⟩
    | next => exact False.elim hq
    | brk => exact False.elim hq
    | cont => exact False.elim hq
section
variable {F : Fx} {N : List Str} {c : Call} {L : Nat}
theorem snd_new {k : Nm} {as : E} (ha : Snd F N c L as) : Snd F N c L (.new k as) := by
  refine .plain (fun X Wx x ok tk h => ?_) (fun X x h => ?_) rfl rfl
  · obtain ⟨p, es, q, e, h1, h2, h3, h4⟩ := cCall_inv h
    cases e
    obtain ⟨h3, hi⟩ := band h3
    obtain ⟨h0, hc⟩ := band h3
    have hc' := List.contains_iff_mem.mp hc
    have hi' := List.contains_iff_mem.mp hi
    obtain ⟨hm, hcl⟩ := ok.fa.cls k hc'
    have M := ok.fa.mkr k hc' hi'
    obtain ⟨hp, hs⟩ := ha.pa X Wx es ok tk h0 h4
    refine ⟨fun pins s σ H Q I ⟨r, w, S, rel, sg, p⟩ => ?_⟩
    simp only [eval] at p
    have go : tMA X.K F.cl Wx (eval c as) σ H fun us H1 => ∃ d, F.T (.me k .d_init) = some d ∧ ∀ x dx, H1 x = none → H1 dx = none → dx ≠ x →
        spF X.K F.cl d.np (c (.me k .d_init)) (.ref x :: us) (upd (upd H1 dx (.own x)) x (.ins (He.ga X.K k.str) dx [])) (fun v H2 => v = .non ∧ Q (.ref x) H2) (WE Wx σ) :=
      ⟨r, w, S, rel, sg, Post.argsA h0 p fun ws S1 r1 H1 us el g1 q1 v1 p1 => by
        have hT : ∃ d, F.T (.me k .d_init) = some d := by
          cases e : F.T (.me k .d_init) with
          | none => rw [ok.fns.non _ _ _ e] at p1; exact False.elim p1
          | some d => exact ⟨d, rfl⟩
        obtain ⟨d, hT⟩ := hT
        refine ⟨d, hT, fun x dx hx hdx hne => ?_⟩
        have hx' : (upd H1 dx (.own x)) x = none := by rw [upd_ne (Ne.symm hne)]; exact hx
        have q2 := q1.fresh (o := .own x) hdx
        have ga : Ge X.K r1 H1 r1 (upd H1 dx (.own x)) := ge_fresh hdx
        have gb : Ge X.K r1 (upd H1 dx (.own x)) (ext r1 S1.next x) (upd (upd H1 dx (.own x)) x (.ins (He.ga X.K k.str) dx [])) := ge_ext q2 hx'
        have q3 : Rel X.K F.cl (ext r1 S1.next x) (S1.new (.ins k [])) (upd (upd H1 dx (.own x)) x (.ins (He.ga X.K k.str) dx [])) := q2.new hx' (.ins hc' .nil)
        refine spF_of ok.fns hT q3 (.cons (.ref ext_same) (v1.mono (ga.trans gb))) ((Post.mono (ga.trans gb) p1).bind fun v S' r' H' u g' q' v' p' => ?_)
        cases v' with
        | non => exact ⟨rfl, Post.val p' q' (.ref (g'.ext _ _ ext_same))⟩
        | _ => exact False.elim p'⟩
    refine wpAny_Call_Name_kw (ld_glob I (gl_of h1 rfl) hm ?_ (bnot h2))
    have fin : ∀ us' s1 us H1, Inv X pins σ H1 s1 → Vals us us' → (∃ d, F.T (.me k .d_init) = some d ∧ ∀ x dx, H1 x = none → H1 dx = none → dx ≠ x →
        spF X.K F.cl d.np (c (.me k .d_init)) (.ref x :: us) (upd (upd H1 dx (.own x)) x (.ins (He.ga X.K k.str) dx [])) (fun v H2 => v = .non ∧ Q (.ref x) H2) (WE Wx σ)) →
        wpAny (model X.prog X.w) X.A (PySem.call (.ref (He.ga X.K k.str)) us') (EP X pins σ Q) X.xe s1 := fun us' s1 us H1 I1 rr ⟨d, hT, sp⟩ => by
      obtain ⟨fd, ps, hl, FO, hb, _⟩ := ok.fns.ok (.me k .d_init) d hT
      exact make_at M FO ok.room hb (passAt tk σ) I1 rr sp
    have hk := M.kp
    cases es with
    | nil =>
      have e0 := args_nil h0 h4
      subst e0
      obtain ⟨r, w, S, rel, sg, p⟩ := go
      exact PySem.W.callWith_K0 I.kIn hk (fin [] s [] H I .nil (p r H [] .refl rel .nil))
    | cons e es =>
      rw [List.all_cons, Bool.and_eq_true] at hs
      exact PySem.W.callWith_K (h₀ := X.base) I.ok.mod.kin hk (thn (hp.run q pins s σ H _ I go) fun us' s1 ⟨us, H1, I1, rr, q1⟩ => ⟨I1.kIn, fin us' s1 us H1 I1 rr q1⟩) (star1 hs.1) (stars hs.2)
  · obtain ⟨p, es, q, e, h1, h2, h3, h4⟩ := cCall_inv h
    cases e
    intro _; rfl
/-- pairs, as a display makes them -/
abbrev RPs (K : PySem.W.Frag) (r : Rho) (H : Hp) : List W → List (V × V) → Prop := Paired fun w p => ∃ a b, w = .tup [a, b] ∧ RV K r H a p.1 ∧ RV K r H b p.2
theorem RPs.mono {K : PySem.W.Frag} {r r' : Rho} {H H' : Hp} (g : Ge K r H r' H') : ∀ {ws : List W} {ps : List (V × V)}, RPs K r H ws ps → RPs K r' H' ws ps
  | _, _, .nil => .nil
  | _, _, .cons ⟨a, b, e, h1, h2⟩ t => .cons ⟨a, b, e, h1.mono g, h2.mono g⟩ (RPs.mono g t)
def PostK (K : PySem.W.Frag) (cl : List Nm) (Wx : WX) (s : L2.St) (r : Rho) (H : Hp) (Q : List (V × V) → Hp → Prop) : R W → Prop
  | .ok v S => ∀ r' H' us, Ge K r H r' H' → Rel K cl r' S H' → RPs K r' H' (tupOf v) us → Q us H'
  | .ex x S => ∀ r' H' d, Ge K r H r' H' → Rel K cl r' S H' → XR K r' H' x d → Wx (xc K x) d s H'
  | .no => False
theorem PostK.mono {K : PySem.W.Frag} {cl : List Nm} {Wx : WX} {s : L2.St} {r r1 : Rho} {H H1 : Hp} (g : Ge K r H r1 H1) {Q : List (V × V) → Hp → Prop} : ∀ {m : R W}, PostK K cl Wx s r H Q m → PostK K cl Wx s r1 H1 Q m
  | .ok _ _, h => fun r' H' u g' => h r' H' u (g.trans g')
  | .ex _ _, h => fun r' H' d g' => h r' H' d (g.trans g')
  | .no, h => h
theorem PostK.bind {K : PySem.W.Frag} {cl : List Nm} {Wx : WX} {s : L2.St} {r : Rho} {H : Hp} {m : R W} {f : W → Sto → R W} {Q : List (V × V) → Hp → Prop} {Q' : VK} (h : PostK K cl Wx s r H Q (m.bind f))
    (k : ∀ v S r' H' u, Ge K r H r' H' → Rel K cl r' S H' → RV K r' H' v u → PostK K cl Wx s r' H' Q (f v S) → Q' u H') : Post K cl Wx s r H Q' m := by
  cases m with
  | ok v S => exact fun r' H' u g q rv => k v S r' H' u g q rv (PostK.mono g (show PostK K cl Wx s r H Q (f v S) from h))
  | ex x S => exact h
  | no => exact h
theorem PostK.bindK {K : PySem.W.Frag} {cl : List Nm} {Wx : WX} {s : L2.St} {r : Rho} {H : Hp} {m : R W} {f : W → Sto → R W} {Q Q' : List (V × V) → Hp → Prop} (h : PostK K cl Wx s r H Q (m.bind f))
    (k : ∀ v S r' H' u, Ge K r H r' H' → Rel K cl r' S H' → RPs K r' H' (tupOf v) u → PostK K cl Wx s r' H' Q (f v S) → Q' u H') : PostK K cl Wx s r H Q' m := by
  cases m with
  | ok v S => exact fun r' H' u g q rv => k v S r' H' u g q rv (PostK.mono g (show PostK K cl Wx s r H Q (f v S) from h))
  | ex x S => exact h
  | no => exact h
theorem Post.bindK {K : PySem.W.Frag} {cl : List Nm} {Wx : WX} {s : L2.St} {r : Rho} {H : Hp} {m : R W} {f : W → Sto → R W} {Q : VK} {Q' : List (V × V) → Hp → Prop} (h : Post K cl Wx s r H Q (m.bind f))
    (k : ∀ v S r' H' u, Ge K r H r' H' → Rel K cl r' S H' → RPs K r' H' (tupOf v) u → Post K cl Wx s r' H' Q (f v S) → Q' u H') : PostK K cl Wx s r H Q' m := by
  cases m with
  | ok v S => exact fun r' H' u g q rv => k v S r' H' u g q rv (Post.mono g (show Post K cl Wx s r H Q (f v S) from h))
  | ex x S => exact h
  | no => exact h
theorem pairs_run {K : PySem.W.Frag} {Wx : WX} {cl : List Nm} {σ : L2.St} {w : Env} : ∀ {e : E} {S : Sto} {H : Hp} {r : Rho} {Q : List (V × V) → Hp → Prop}, isKv e = true → Rel K cl r S H → RSig K r H w σ → PostK K cl Wx σ r H Q (eval c e w S) → tPairs (trs K cl Wx c e) σ H Q := by
  intro e
  induction e with
  | nil => intro S H r Q _ rel sg p; exact p r H [] .refl rel .nil
  | kv k v b _ _ ih =>
    intro S H r Q hk rel sg p
    simp only [eval] at p
    exact ⟨r, w, S, rel, sg, p.bind fun x S1 r1 H1 u g1 q1 v1 p1 => ⟨r1, w, S1, q1, sg.mono g1, p1.bind fun y S2 r2 H2 u2 g2 q2 v2 p2 =>
      ih (show isKv b = true from hk) q2 ((sg.mono g1).mono g2) (p2.bindK fun t S3 r3 H3 us g3 q3 v3 p3 => p3 r3 H3 _ .refl q3 (.cons ⟨x, y, rfl, (v1.mono g2).mono g3, v2.mono g3⟩ v3))⟩⟩
  | _ => intro _ _ _ _ hk; cases hk
theorem pairs_of {K : PySem.W.Frag} {r : Rho} {H : Hp} : ∀ {ws : List W} {ps : List (V × V)} {kvs : List (Key × W)}, RPs K r H ws ps → pairsOf ws = some kvs → ∃ us : List (Key × V), ps = us.map (fun kv => (kV kv.1, kv.2)) ∧ RKV K r H kvs us
  | _, _, kvs, .nil, e => by
    simp only [pairsOf, Option.some.injEq] at e
    subst e
    exact ⟨[], rfl, .nil⟩
  | w :: ws, p :: ps, kvs, .cons ⟨a, b, ew, h1, h2⟩ t, e => by
    subst ew
    simp only [pairsOf] at e
    split at e
    · rename_i k l e1 e2
      cases e
      obtain ⟨us, e3, h3⟩ := pairs_of t e2
      refine ⟨(k, p.2) :: us, ?_, .cons ⟨rfl, h2⟩ h3⟩
      rw [List.map_cons, ← e3, ← h1.key e1]
    · cases e
theorem snd_dct {kvs : E} (hk : Snd F N c L kvs) : Snd F N c L (.dct kvs) := by
  refine .plain (fun X Wx x ok tk h => ?_) (fun X x h => ?_) rfl rfl
  · obtain ⟨h0, h⟩ := band h
    obtain ⟨ks, vs, p, e, h1, h2, h3, h4⟩ := cDct_inv h
    cases e
    cases ks with
    | nil =>
      cases vs with
      | cons _ _ => cases h2
      | nil =>
        have e0 : kvs = .nil := by
          cases kvs <;> first | rfl | cases h0 | cases h4
        subst e0
        refine ⟨fun pins s σ H Q I ⟨r, w, S, rel, sg, p⟩ => pe_dnewK.run pins s σ H Q I (Post.mk (d := .dct false []) p rel (.dct .nil))⟩
    | cons k ks =>
      have hp := hk.pk X Wx p (k :: ks) vs ok tk h0 h1 h2 h4
      refine ⟨fun pins s σ H Q I ⟨r, w, S, rel, sg, p⟩ => (pe_disp hp h1 h2 (by simp) h3).run pins s σ H Q I fun a ha => ?_⟩
      have hne : ∀ S, eval c (.dct kvs) w S = (eval c kvs w (S.new (.dct false []))).bind fun t S' => (match S'.get S.next, pairsOf (tupOf t) with
          | some (.dct false []), some ps => if ps.length ≤ 15 then .ok (.ref S.next) (S'.put S.next (.dct false (mergeW [] ps))) else .no
          | _, _ => .no) := by
        intro S
        cases vs with
        | nil => cases h2
        | cons v vs => cases k with
          | none => cases h1
          | some k => cases kvs with
            | nil => cases h4
            | kv _ _ _ => rfl
            | _ => cases h0
      rw [hne] at p
      have g0 := ge_ext (o := .dK []) rel ha
      have q0 : Rel X.K F.cl (ext r S.next a) (S.new (.dct false [])) (upd H a (.dK [])) := rel.new ha (.dct .nil)
      refine pairs_run h0 q0 (sg.mono g0) ((Post.mono g0 p).bindK fun t S1 r1 H1 us g1 q1 v1 p1 => ?_)
      split at p1
      · rename_i ps gt gp
        split at p1
        · rename_i hl
          have ea : r1 S.next = some a := g1.ext _ _ ext_same
          obtain ⟨vs0, e1, e2⟩ := q1.dct ea gt
          cases e2
          obtain ⟨us', eu, hu⟩ := pairs_of v1 gp
          have nf : ∀ ob u, H1 a ≠ some (.frz ob u) := fun ob u z => by rw [e1] at z; cases z
          refine ⟨e1, us', eu, by rw [← Paired.len hu]; exact hl, ?_⟩
          exact p1 r1 _ _ (ge_put q1 ea nf) (q1.put ea nf (.dct (RKV.mono (ge_put q1 ea nf) (rkv_merge hu .nil)))) (.ref ea)
        · exact False.elim p1
      · exact False.elim p1
  · obtain ⟨h0, h⟩ := band h
    obtain ⟨ks, vs, p, e, h1, h2, h3, h4⟩ := cDct_inv h
    cases e
    intro _; rfl
theorem Snd.walked {e : E} (no : ∀ (sc : Scope) (x : Expr), chk F N e .e sc [x] = false) (ha : isArgs e = false) (hk : isKv e = false)
    (pi : ∀ (X : Cx) (Wx : WX) (tg x : Expr), Ok F N c L X → Takes X Wx → chk F N e .i X.env.scope [x] = true → PI X tg x (tMI X.K F.cl Wx (eval c e))) : Snd F N c L e where
  pe := fun X Wx x ok tk h => by rw [no] at h; cases h
  pt := fun X Wx x ok tk h => by rw [no] at h; cases h
  pa := fun X Wx xs ok tk h => by rw [ha] at h; cases h
  pi := pi
  pk := fun X Wx pos ks vs ok tk h => by rw [hk] at h; cases h
theorem snd_rng1 {a : E} (ha : Snd F N c L a) : Snd F N c L (.rng1 a) := by
  refine .walked (fun _ _ => rfl) rfl rfl fun X Wx tg x ok tk h => ?_
  obtain ⟨p, es, q, e, h1, h2, h3, h4⟩ := cBi_inv (band (show (Md.isI .i && cBi F X.env.scope "range" (fun n => decide (n = 1)) (cCons (chk F N a .e X.env.scope) cNil) [x]) = true from h)).2
  cases e
  obtain ⟨y, ys, e, h5, h6, h7⟩ := cCons_inv h4
  cases e
  have e := cNil_inv h7
  subst e
  refine ⟨fun pins s σ H R' I ⟨r, w, S, rel, sg, p⟩ => (pi_range1 (gl_of h1 rfl) (ok.fa.free _ h2) (pa_cons (ha.pe X Wx y ok tk h6) pa_nil (star1 h5)) (star1 h5)).run pins s σ H R' I ⟨r, w, S, rel, sg, ?_⟩⟩
  simp only [eval] at p
  cases e : eval c a w S with
  | ok v S1 =>
    rw [e] at p
    intro r1 H1 u g1 q1 v1
    cases v1 with
    | int n =>
      have p : PostI X.K F.cl Wx σ r H R' (if -100000 ≤ n ∧ n ≤ 100000 then R.ok (.tup (rangeW 0 n)) S1 else .no) := p
      split at p
      · rename_i hb
        refine ⟨n, rfl, by omega, by omega, ?_⟩
        have := p.2 r1 H1 (Itr 0 (n - 0).toNat) g1 q1 .rng
        rw [Int.sub_zero] at this
        exact this
      · exact False.elim p
    | _ => exact False.elim p
  | ex x S1 => rw [e] at p; exact p
  | no => rw [e] at p; exact False.elim p
theorem snd_rng2 {a b : E} (ha : Snd F N c L a) (hb : Snd F N c L b) : Snd F N c L (.rng2 a b) := by
  refine .walked (fun _ _ => rfl) rfl rfl fun X Wx tg x ok tk h => ?_
  obtain ⟨p, es, q, e, h1, h2, h3, h4⟩ := cBi_inv (band (show (Md.isI .i && cBi F X.env.scope "range" (fun n => decide (n = 2)) (cCons (chk F N a .e X.env.scope) (cCons (chk F N b .e X.env.scope) cNil)) [x]) = true from h)).2
  cases e
  obtain ⟨y, ys, e, h5, h6, h7⟩ := cCons_inv h4
  cases e
  obtain ⟨y2, ys2, e, h8, h9, h10⟩ := cCons_inv h7
  cases e
  have e := cNil_inv h10
  subst e
  refine ⟨fun pins s σ H R' I ⟨r, w, S, rel, sg, p⟩ => (pi_range2 (gl_of h1 rfl) (ok.fa.free _ h2) (pa_cons (ha.pe X Wx y ok tk h6) (pa_cons (hb.pe X Wx y2 ok tk h9) pa_nil (star1 h8)) (star1 h5)) (by rw [star1 h5, star1 h8]; rfl) (star1 h8)).run pins s σ H R' I ⟨r, w, S, rel, sg, ?_⟩⟩
  simp only [eval] at p
  cases e : eval c a w S with
  | ok v S1 =>
    rw [e] at p
    intro r1 H1 u g1 q1 v1
    refine ⟨r1, w, S1, q1, sg.mono g1, ?_⟩
    have p : PostI X.K F.cl Wx σ r H R' ((eval c b w S1).bind fun y S => (match (generalizing := false) v, y with
      | .int i, .int j => if -100000 ≤ i ∧ i ≤ 100000 ∧ -100000 ≤ j ∧ j ≤ 100000 then .ok (.tup (rangeW i j)) S else .no
      | _, _ => .no)) := p
    cases e2 : eval c b w S1 with
    | ok v2 S2 =>
      rw [e2] at p
      intro r2 H2 u2 g2 q2 w2
      have p : PostI X.K F.cl Wx σ r H R' (match (generalizing := false) v, v2 with
        | .int i, .int j => if -100000 ≤ i ∧ i ≤ 100000 ∧ -100000 ≤ j ∧ j ≤ 100000 then R.ok (.tup (rangeW i j)) S2 else .no
        | _, _ => .no) := p
      cases v1 with
      | int i => cases w2 with
        | int j =>
          dsimp only at p
          split at p
          · rename_i hb
            exact ⟨i, j, rfl, ⟨by omega, by omega, by omega, by omega⟩, p.2 r2 H2 (Itr i (j - i).toNat) (g1.trans g2) q2 .rng⟩
          · exact False.elim p
        | _ => exact False.elim p
      | _ => exact False.elim p
    | ex x S2 =>
      rw [e2] at p
      exact fun r' H' d g' => p r' H' d (g1.trans g')
    | no => rw [e2] at p; exact False.elim p
  | ex x S1 => rw [e] at p; exact p
  | no => rw [e] at p; exact False.elim p
theorem snd_enm {a : E} : Snd F N c L (.enm a) := .walked (fun _ _ => rfl) rfl rfl fun X Wx tg x ok tk h => by cases h
end
end D
end

section
set_option maxHeartbeats 1000000
/-! Comprehensions. -/
namespace D
open PySem PySem.Spec PyProof.Rows L2

/-! ### targets -/
def gNms : List Nat → TGs
  | [] => gNil
  | i :: is => gCons (gName i) (gNms is)
def gTgt (K : PySem.W.Frag) (xs : List Nat) (one : Bool) : TG := if one then (match xs with
  | [i] => gName i
  | _ => fun _ _ _ _ => False) else gTup K xs.length (gNms xs)
section
variable {X : Cx} {N : List Str}
theorem tgt_cons {b : Bool} {sc : Scope} {i : Nat} {is : List Nat} {ts : List Expr} (h : tgt b N sc (i :: is) ts = true) : ∃ x p ts', ts = .Name x p :: ts' ∧ N[i]? = some x ∧ (if b then lcl sc x else locB sc x) = true ∧ tgt b N sc is ts' = true := by
  unfold tgt at h
  split at h
  · rename_i e; cases e
  · rename_i e
    cases e
    simp only [Bool.and_eq_true, decide_eq_true_eq] at h
    exact ⟨_, _, _, rfl, h.1.1, h.1.2, h.2⟩
  · cases h
theorem loc_of {sc : Scope} {x : Str} (h : locB sc x = true) : L2.Loc sc x := by
  unfold locB at h
  unfold L2.Loc
  split at h
  · exact .inl (by assumption)
  · exact .inr (by assumption)
  · cases h
theorem lcl_of {sc : Scope} {x : Str} (h : lcl sc x = true) : sc.names.lookup x = some .local := by
  unfold lcl at h
  split at h
  · assumption
  · cases h
/-- a target's name may be stored -/
theorem pg_one {b : Bool} {i : Nat} {x : Str} {p : Pos} (hN : X.N = N) (nd : N.Nodup) (h1 : N[i]? = some x) (h2 : (if b then lcl X.env.scope x else locB X.env.scope x) = true) (hf : b = false → ∀ y, X.fn y = true) : PG X (.Name x p) (gName i) := by
  cases b with
  | true => exact pg_name (by rw [hN]; exact nd) (by rw [hN]; exact h1) (.inl (lcl_of h2)) (.inr (lcl_of h2))
  | false => exact pg_name (by rw [hN]; exact nd) (by rw [hN]; exact h1) (loc_of h2) (.inl (hf rfl x))
theorem pgs_ok {b : Bool} (hN : X.N = N) (nd : N.Nodup) (hf : b = false → ∀ y, X.fn y = true) : ∀ {is : List Nat} {ts : List Expr}, tgt b N X.env.scope is ts = true →
    PGs X ts (gNms is) ∧ (assignEach ts X.env).length = is.length ∧ (assignEach ts X.env).findIdx? (·.1) = none
  | [], ts, h => by
    cases ts with
    | nil => exact ⟨pgs_nil, rfl, rfl⟩
    | cons _ _ => cases h
  | i :: is, ts, h => by
    obtain ⟨x, p, ts', e, h1, h2, h3⟩ := tgt_cons h
    subst e
    obtain ⟨i1, i2, i3⟩ := pgs_ok hN nd hf h3
    refine ⟨pgs_cons (pg_one hN nd h1 h2 hf) i1, ?_, ?_⟩
    · show (assignEach ts' X.env).length + 1 = _
      rw [i2]; rfl
    · show List.findIdx? (·.1) ((false, _) :: assignEach ts' X.env) = none
      rw [List.findIdx?_cons]
      simp [i3]
theorem pg_tgt {b : Bool} {xs : List Nat} {one : Bool} {e : Expr} (hc : X.calm = true) (hN : X.N = N) (nd : N.Nodup) (hf : b = false → ∀ y, X.fn y = true) (h : tgt1 b N X.env.scope xs one e = true) : PG X e (gTgt X.K xs one) := by
  unfold tgt1 at h
  cases one with
  | true =>
    rw [if_pos rfl] at h
    split at h
    · rename_i x p
      cases xs with
      | nil => cases h
      | cons i is =>
        obtain ⟨x', p', ts', e, h1, h2, h3⟩ := tgt_cons h
        cases e
        cases is with
        | cons _ _ => cases h3
        | nil => exact pg_one hN nd h1 h2 hf
    · cases h
  | false =>
    rw [if_neg Bool.false_ne_true] at h
    split at h
    · rename_i ts k p
      obtain ⟨i1, i2, i3⟩ := pgs_ok hN nd hf h
      exact pg_tup hc i1 i2 i3
    · cases h
end
section
variable {K : PySem.W.Frag} {r : Rho} {H : Hp}
theorem wipe_set {σ : L2.St} {i : Nat} {v : Option V} : ∀ {xs : List Nat}, i ∈ xs → L2.wipe (σ.set i v) xs = L2.wipe σ xs
  | x :: xs, h => by
    by_cases hx : i ∈ xs
    · unfold L2.wipe
      rw [wipe_set hx]
    · have e : i = x := by
        rcases List.mem_cons.mp h with e | e
        · exact e
        · exact absurd e hx
      subst e
      have comm : ∀ {ys : List Nat}, i ∉ ys → L2.wipe (σ.set i v) ys = (L2.wipe σ ys).set i v := by
        intro ys
        induction ys with
        | nil => intro _; rfl
        | cons y ys ih =>
          intro hy
          simp only [List.mem_cons, not_or] at hy
          show (L2.wipe (σ.set i v) ys).set y none = ((L2.wipe σ ys).set y none).set i v
          rw [ih hy.2, List.set_comm _ _ hy.1]
      show (L2.wipe (σ.set i v) xs).set i none = (L2.wipe σ xs).set i none
      rw [comm hx, List.set_set]
theorem wipe_wipe (σ : L2.St) : ∀ (ys xs : List Nat), (∀ y ∈ ys, y ∈ xs) → L2.wipe (L2.wipe σ ys) xs = L2.wipe σ xs
  | [], _, _ => rfl
  | y :: ys, xs, h => by
    show L2.wipe ((L2.wipe σ ys).set y none) xs = _
    rw [wipe_set (h y List.mem_cons_self), wipe_wipe σ ys xs fun z hz => h z (List.mem_cons_of_mem _ hz)]
theorem gNms_ok {Q : L2.St → Hp → Prop} : ∀ {is : List Nat} {ws : List W} {vs : List V} {w w' : Env} {σ : L2.St} {zs : List Nat}, (∀ i ∈ is, i ∈ zs) → RVs K r H ws vs → RSig K r H w σ → setAll is ws w = some w' →
    (∀ σ', RSig K r H w' σ' → L2.wipe σ' zs = L2.wipe σ zs → Q σ' H) → gNms is vs σ H Q
  | [], ws, vs, w, w', σ, zs, _, rv, sg, e, k => by
    cases rv with
    | nil =>
      cases e
      exact ⟨rfl, k σ sg rfl⟩
    | cons _ _ => cases e
  | i :: is, ws, vs, w, w', σ, zs, hz, rv, sg, e, k => by
    cases rv with
    | nil => cases e
    | cons h hs =>
      refine ⟨_, _, rfl, gNms_ok (zs := zs) (fun j hj => hz j (List.mem_cons_of_mem _ hj)) hs (sg.set i h) e fun σ' s' e' => k σ' s' ?_⟩
      rw [e', wipe_set (hz i List.mem_cons_self)]
theorem setAll_l : ∀ {is : List Nat} {ws : List W} {w w' : Env}, setAll is ws w = some w' → is.length = ws.length
  | [], [], _, _, _ => rfl
  | [], _ :: _, _, _, e => by cases e
  | _ :: _, [], _, _, e => by cases e
  | _ :: _, _ :: _, _, _, e => congrArg Nat.succ (setAll_l (by exact e))
theorem take_tup_ok {Q : L2.St → Hp → Prop} {xs : List Nat} {ws : List W} {a : Addr} {vs : List V} {w w' : Env} {σ : L2.St} (e1 : SqT K H a vs) (hs : RVs K r H ws vs) (sg : RSig K r H w σ) (e : setAll xs ws w = some w')
    (k : ∀ σ', RSig K r H w' σ' → L2.wipe σ' xs = L2.wipe σ xs → Q σ' H) : gTgt K xs false (.ref a) σ H Q :=
  ⟨_, _, rfl, e1, by rw [← hs.length, setAll_l e], gNms_ok (fun _ h => h) hs sg e k⟩
theorem take_ok {Q : L2.St → Hp → Prop} {xs : List Nat} {one : Bool} {x : W} {v : V} {w w' : Env} {σ : L2.St} (rv : RV K r H x v) (sg : RSig K r H w σ) (e : takeT xs one x w = some w')
    (k : ∀ σ', RSig K r H w' σ' → L2.wipe σ' xs = L2.wipe σ xs → Q σ' H) : gTgt K xs one v σ H Q := by
  unfold takeT at e
  unfold gTgt
  cases one with
  | true =>
    rw [if_pos rfl] at e ⊢
    split at e
    · rename_i i
      cases e
      exact k _ (sg.set i rv) (wipe_set (List.mem_cons_self))
    · cases e
  | false =>
    rw [if_neg Bool.false_ne_true] at e ⊢
    split at e
    · rename_i vs
      cases rv with
      | tup e1 hs =>
        exact ⟨_, _, rfl, e1.sq, by rw [← hs.length, setAll_l e], gNms_ok (fun _ h => h) hs sg e k⟩
    · cases e
end

/-! ### the turns -/
section
variable {K : PySem.W.Frag} {cl : List Nm}
/-- a value that J yields -/
structure Vw (K : PySem.W.Frag) (J : It) (xs : List W) (P : Rho → Hp → Prop) : Prop where
  go : ∀ i r H, P r H → i < xs.length → J.go i H
  stop : ∀ i r H, P r H → xs.length ≤ i → J.stop i H
  yld : ∀ i r H x H', P r H → i < xs.length → J.yld i H x H' → H' = H ∧ ∃ w, xs[i]? = some w ∧ RV K r H w x
  mono : ∀ r H r' H', P r H → Ge K r H r' H' → P r' H'
theorem vw_tup {xs : List W} {a : Addr} {vs : List V} : Vw K (Itt K a) xs (fun r H => TupAt H a vs ∧ RVs K r H xs vs) where
  go := fun i r H p h => by
    have h' : i < vs.length := by rw [← p.2.length]; exact h
    exact ⟨vs, vs[i], p.1.sq, by simp [h']⟩
  stop := fun i r H p h => ⟨vs, p.1.sq, by rw [← p.2.length]; exact h⟩
  yld := fun i r H x H' p h y => by
    obtain ⟨e, hx⟩ := y
    obtain ⟨w, e1, e2⟩ := p.2.get' (hx vs p.1.sq)
    exact ⟨e, w, e1, e2⟩
  mono := fun r H r' H' p g => ⟨g.tup _ _ p.1, p.2.mono g⟩
theorem rangeW_get {lo hi : Int} {i : Nat} : (rangeW lo hi)[i]? = if i < (hi - lo).toNat then some (.int (lo + (i : Int))) else none := by
  unfold rangeW
  rw [List.getElem?_map]
  by_cases h : i < (hi - lo).toNat
  · rw [if_pos h, List.getElem?_range h]; rfl
  · rw [if_neg h, List.getElem?_eq_none (by simpa using h)]; rfl
theorem rangeW_len {lo hi : Int} : (rangeW lo hi).length = (hi - lo).toNat := by simp [rangeW]
theorem vw_rng {lo hi : Int} : Vw K (Itr lo (hi - lo).toNat) (rangeW lo hi) (fun _ _ => True) where
  go := fun i r H p h => by rw [rangeW_len] at h; exact h
  stop := fun i r H p h => by rw [rangeW_len] at h; exact h
  yld := fun i r H x H' p h y => by
    rw [rangeW_len] at h
    obtain ⟨e, hx⟩ := y
    subst hx
    exact ⟨e, _, by rw [rangeW_get, if_pos h], .int _⟩
  mono := fun _ _ _ _ _ _ => trivial
theorem vw_keys {a : Addr} {o : Obj} {kvs : List (Key × W)} {us : List (Key × V)} (hk : kvs.map (·.1) = us.map (·.1)) : Vw K (Itk a o us) (kvs.map fun kv => keyW kv.1) (fun _ H => H a = some (.frz o (.dK us))) where
  go := fun i r H p h => by
    have hl := congrArg List.length hk
    simp only [List.length_map] at hl h
    exact ⟨p, by omega⟩
  stop := fun i r H p h => by
    have hl := congrArg List.length hk
    simp only [List.length_map] at hl h
    exact ⟨p, by omega⟩
  yld := fun i r H x H' p h y => by
    obtain ⟨e, k, v, e1, e2⟩ := y
    subst e2
    have e3 : (kvs.map (·.1))[i]? = some k := by rw [hk, List.getElem?_map, e1]; rfl
    rw [List.getElem?_map] at e3
    cases e4 : kvs[i]? with
    | none => rw [e4] at e3; cases e3
    | some q =>
      rw [e4] at e3
      have e5 : q.1 = k := by simpa using e3
      refine ⟨e, keyW k, by rw [List.getElem?_map, e4, ← e5]; rfl, ?_⟩
      cases k with
      | inl i => exact .int i
      | inr x => exact .str x
  mono := fun r H r' H' p g => g.frz _ _ _ p
theorem rkv_keys {r : Rho} {H : Hp} {kvs : List (Key × W)} {us : List (Key × V)} (h : RKV K r H kvs us) : kvs.map (·.1) = us.map (·.1) := by
  induction h with
  | nil => rfl
  | cons a _ ih => rw [List.map_cons, List.map_cons, ih, a.1]
/-- no exception -/
def W0 : WX := fun _ _ _ _ => False
def PostN (K : PySem.W.Frag) (cl : List Nm) (r : Rho) (H : Hp) (Q : Hp → Prop) : R Unit → Prop
  | .ok _ S => ∀ r' H', Ge K r H r' H' → Rel K cl r' S H' → Q H'
  | _ => False
theorem PostN.mono {r r1 : Rho} {H H1 : Hp} (g : Ge K r H r1 H1) {Q : Hp → Prop} : ∀ {m : R Unit}, PostN K cl r H Q m → PostN K cl r1 H1 Q m
  | .ok _ _, h => fun r' H' g' => h r' H' (g.trans g')
  | .ex _ _, h => h
  | .no, h => h
/-- the body of a comprehension's walk -/
def LcStep (K : PySem.W.Frag) (xs : List Nat) (one : Bool) (tt : TT) (te : TE) (D : Addr) (σ : L2.St) (Nx : Hp → Prop) (v : V) (H : Hp) : Prop :=
  gTgt K xs one v (L2.wipe σ xs) H fun σ2 H2 => L2.wipe σ2 xs = L2.wipe σ xs ∧ tt σ2 H2 fun b H3 =>
    if b = true then te σ2 H3 fun y H4 => ∃ acc, H4 D = some (.lst acc) ∧ acc.length < sizeLine ∧ Nx (upd H4 D (.lst (acc ++ [y]))) else Nx H3
/-- the readings of a comprehension's tests and element, as they are found in its block -/
def ttOf (K : PySem.W.Frag) (cl : List Nm) (c : Call) (cnd : E) : TT := match cnd with
  | .no => tYes
  | _ => tMT K cl W0 (eval c cnd)
def testOf (c : Call) (cnd : E) : Option (Env → Sto → R W) := match cnd with
  | .no => none
  | _ => some fun σ S => eval c cnd σ S
theorem wipe_idem (σ : L2.St) (xs : List Nat) : L2.wipe (L2.wipe σ xs) xs = L2.wipe σ xs := wipe_wipe σ xs xs fun _ h => h
theorem lc_turn {c : Call} {elt cnd : E} {xs : List Nat} {one : Bool} {n : Nat} {D : Addr} {w : Env} {σ : L2.St} {x : W} {v : V} {r : Rho} {S : Sto} {H : Hp} {Nx : Hp → Prop} (hD : r n = some D) (rel : Rel K cl r S H) (sg : RSig K r H w σ) (rv : RV K r H x v)
    (p : PostN K cl r H Nx (lcTurn n w xs one (testOf c cnd) (fun σ S => eval c elt σ S) x () S)) : LcStep K xs one (ttOf K cl c cnd) (tM K cl W0 (eval c elt)) D σ Nx v H := by
  unfold lcTurn at p
  cases et : takeT xs one x (wipeW w xs) with
  | none => rw [et] at p; exact False.elim p
  | some w' =>
    rw [et] at p
    dsimp only at p
    refine take_ok rv (sg.wipe xs) et fun σ2 sg2 e2 => ⟨by rw [e2, wipe_idem], ?_⟩
    have add : ∀ S1 r1 H1, Ge K r H r1 H1 → Rel K cl r1 S1 H1 → PostN K cl r1 H1 Nx ((eval c elt w' S1).noex.bind fun v S => match S.get n with
        | some (.lst acc) => if acc.length ≤ lim then .ok () (S.put n (.lst (acc ++ [v]))) else .no
        | _ => .no) → tM K cl W0 (eval c elt) σ2 H1 fun y H4 => ∃ acc, H4 D = some (.lst acc) ∧ acc.length < sizeLine ∧ Nx (upd H4 D (.lst (acc ++ [y]))) := fun S1 r1 H1 g1 q1 p1 => by
      refine ⟨r1, w', S1, q1, sg2.mono g1, ?_⟩
      cases e1 : eval c elt w' S1 with
      | ok y S2 =>
        rw [e1] at p1
        intro r2 H2 u g2 q2 rv2
        have p2 : PostN K cl r1 H1 Nx (match (generalizing := false) S2.get n with
          | some (.lst acc) => if acc.length ≤ lim then R.ok () (S2.put n (.lst (acc ++ [y]))) else .no
          | _ => .no) := p1
        split at p2
        · rename_i acc g
          split at p2
          · rename_i hl
            have hD2 := g2.ext _ _ (g1.ext _ _ hD)
            obtain ⟨vs, a1, h1⟩ := q2.lst hD2 g
            have nf : ∀ ob u, H2 D ≠ some (.frz ob u) := fun ob u z => by rw [a1] at z; cases z
            have gp := ge_put (o := .lst (vs ++ [u])) q2 hD2 nf
            refine ⟨vs, a1, by rw [← h1.length]; exact lim_lt hl, p2 r2 _ (g2.trans gp) (q2.put hD2 nf (.lst ?_))⟩
            exact RVs.mono gp (h1.append (.cons rv2 .nil))
          · exact False.elim p2
        · exact False.elim p2
      | ex y S2 => rw [e1] at p1; exact False.elim p1
      | no => rw [e1] at p1; exact False.elim p1
    have hc : (cnd = .no) ∨ (ttOf K cl c cnd = tMT K cl W0 (eval c cnd) ∧ testOf c cnd = some fun σ S => eval c cnd σ S) := by
      cases cnd <;> first | exact .inl rfl | exact .inr ⟨rfl, rfl⟩
    rcases hc with e | ⟨e3, e4⟩
    · subst e
      exact iteT (B := Nx H) (add S r H .refl rel p)
    · rw [e3]
      rw [e4] at p
      dsimp only at p
      refine ⟨r, w', S, rel, sg2, ?_⟩
      cases e1 : eval c cnd w' S with
      | ok b S1 =>
        rw [e1] at p
        have p1 : PostN K cl r H Nx (match (generalizing := false) b with
          | .bl true => (eval c elt w' S1).noex.bind fun v S => match S.get n with
            | some (.lst acc) => if acc.length ≤ lim then .ok () (S.put n (.lst (acc ++ [v]))) else .no
            | _ => .no
          | .bl false => .ok () S1
          | _ => .no) := p
        cases b with
        | bl b =>
          refine ⟨b, rfl, fun r1 H1 g1 q1 => ?_⟩
          cases b with
          | true => rw [if_pos rfl]; exact add S1 r1 H1 g1 q1 (PostN.mono g1 p1)
          | false => rw [if_neg Bool.false_ne_true]; exact p1 r1 H1 g1 q1
        | _ => exact False.elim p1
      | ex y S1 => rw [e1] at p; exact False.elim p
      | no => rw [e1] at p; exact False.elim p
theorem lcTurn_noex {n : Nat} {w : Env} {xs : List Nat} {one : Bool} {t : Option (Env → Sto → R W)} {e : Env → Sto → R W} {x : W} {a : Unit} {S S' : Sto} {y : Exc} : lcTurn n w xs one t e x a S ≠ .ex y S' := by
  intro h
  have noex : ∀ {m : R W} {f : W → Sto → R Unit}, (∀ v S, f v S ≠ .ex y S') → m.noex.bind f ≠ .ex y S' := fun {m f} hf z => by
    cases m with
    | ok v S => exact hf v S z
    | ex _ _ => cases z
    | no => cases z
  have add : ∀ (v : W) (S2 : Sto), (match S2.get n with
      | some (.lst acc) => if acc.length ≤ lim then R.ok () (S2.put n (.lst (acc ++ [v]))) else .no
      | _ => .no) ≠ .ex y S' := fun v S2 z => by
    split at z
    · split at z <;> cases z
    · cases z
  unfold lcTurn at h
  split at h
  · cases h
  · dsimp only at h
    split at h
    · exact noex add h
    · refine noex (fun b S2 z => ?_) h
      split at z
      · exact noex add z
      · cases z
      · cases z
theorem walk_noex {f : W → Unit → Sto → R Unit} {y : Exc} {S' : Sto} (hf : ∀ x a S, f x a S ≠ .ex y S') : ∀ (xs : List W) (a : Unit) (S : Sto), walk f xs a S ≠ .ex y S'
  | [], a, S => fun z => by cases z
  | x :: xs, a, S => fun z => by
    unfold walk at z
    cases e : f x a S with
    | ok b S1 => rw [e] at z; exact walk_noex hf xs b S1 z
    | ex y1 S1 =>
      rw [e] at z
      cases z
      exact hf x a S e
    | no => rw [e] at z; cases z
theorem walkL_noex {n : Nat} {f : W → Unit → Sto → R Unit} {y : Exc} {S' : Sto} (hf : ∀ x a S, f x a S ≠ .ex y S') : ∀ (k i : Nat) (a : Unit) (S : Sto), walkL n f k i a S ≠ .ex y S'
  | 0, i, a, S => fun z => by
    unfold walkL at z
    split at z
    · split at z <;> cases z
    · split at z <;> cases z
    · cases z
  | k + 1, i, a, S => fun z => by
    have one : ∀ x, ((f x a S).bind fun a S => walkL n f k (i + 1) a S) ≠ .ex y S' := fun x z => by
      cases e : f x a S with
      | ok b S1 => rw [e] at z; exact walkL_noex hf k (i + 1) b S1 z
      | ex y1 S1 =>
        rw [e] at z
        cases z
        exact hf x a S e
      | no => rw [e] at z; cases z
    unfold walkL at z
    split at z
    · split at z
      · exact one _ z
      · cases z
    · split at z
      · exact one _ z
      · cases z
    · cases z
/-- the walk of a comprehension over values -/
theorem lc_vals {J : It} {ws : List W} {P Bs : Rho → Hp → Prop} (Vx : Vw K J ws P) (hB : ∀ r H r' H', Bs r H → Ge K r H r' H' → Bs r' H') {turn : W → Unit → Sto → R Unit} {step : (Hp → Prop) → V → Hp → Prop} {Qd : Hp → Prop}
    (hs : ∀ r S H x v Nx, Rel K cl r S H → Bs r H → RV K r H x v → PostN K cl r H Nx (turn x () S) → step Nx v H) {r0 : Rho} {S0 : Sto} {H0 : Hp} (hP : P r0 H0) (hb : Bs r0 H0) (rel : Rel K cl r0 S0 H0) (h : PostN K cl r0 H0 Qd (walk turn ws () S0)) :
    ∃ Wv : Nat → Nat → Hp → Prop, (∃ m, Wv 0 m H0) ∧ ∀ i m H, Wv i m H → (J.stop i H ∧ Qd H) ∨ (J.go i H ∧ ∃ Nx : Hp → Prop, (∀ H', Nx H' → ∃ m', m' < m ∧ Wv (i + 1) m' H') ∧ ∀ x H', J.yld i H x H' → step Nx x H') := by
  refine ⟨fun i m H => m = ws.length - i ∧ i ≤ ws.length ∧ ∃ r S, P r H ∧ Bs r H ∧ Rel K cl r S H ∧ PostN K cl r H Qd (walk turn (ws.drop i) () S), ⟨ws.length, by simp, Nat.zero_le _, r0, S0, hP, hb, rel, by simpa using h⟩, ?_⟩
  rintro i m H ⟨rfl, hi, r, S, p, b, rel, h⟩
  by_cases hlt : i < ws.length
  · refine .inr ⟨Vx.go i r H p hlt, fun H' => ∃ r' S', P r' H' ∧ Bs r' H' ∧ Rel K cl r' S' H' ∧ PostN K cl r' H' Qd (walk turn (ws.drop (i + 1)) () S'), fun H' ⟨r', S', a1, a2, a3, a4⟩ => ⟨ws.length - (i + 1), by omega, rfl, hlt, r', S', a1, a2, a3, a4⟩, fun x H' y => ?_⟩
    obtain ⟨e, w, e1, rv⟩ := Vx.yld i r H x H' p hlt y
    subst e
    have ed : ws.drop i = w :: ws.drop (i + 1) := by
      rw [List.drop_eq_getElem_cons hlt]
      have : ws[i] = w := by
        rw [List.getElem?_eq_getElem hlt] at e1
        exact Option.some.inj e1
      rw [this]
    rw [ed] at h
    refine hs r S H' w x _ rel b rv ?_
    unfold walk at h
    cases e2 : turn w () S with
    | ok u S1 =>
      rw [e2] at h
      exact fun r' H2 g q => ⟨r', S1, Vx.mono _ _ _ _ p g, hB _ _ _ _ b g, q, PostN.mono g h⟩
    | ex y S1 => rw [e2] at h; exact False.elim h
    | no => rw [e2] at h; exact False.elim h
  · have e : i = ws.length := by omega
    subst e
    rw [List.drop_length] at h
    exact .inl ⟨Vx.stop _ r H p (Nat.le_refl _), h r H .refl rel⟩
/-- .. over a list -/
theorem lc_list {n : Nat} {a : Addr} {Bs : Rho → Hp → Prop} (hB : ∀ r H r' H', Bs r H → Ge K r H r' H' → Bs r' H') {turn : W → Unit → Sto → R Unit} {step : (Hp → Prop) → V → Hp → Prop} {Qd : Hp → Prop}
    (hs : ∀ r S H x v Nx, Rel K cl r S H → Bs r H → RV K r H x v → PostN K cl r H Nx (turn x () S) → step Nx v H) {r0 : Rho} {S0 : Sto} {H0 : Hp} (k : Nat) (ha : r0 n = some a) (hb : Bs r0 H0) (rel : Rel K cl r0 S0 H0) (h : PostN K cl r0 H0 Qd (walkL n turn k 0 () S0)) :
    ∃ Wv : Nat → Nat → Hp → Prop, (∃ m, Wv 0 m H0) ∧ ∀ i m H, Wv i m H → ((Itl K a).stop i H ∧ Qd H) ∨ ((Itl K a).go i H ∧ ∃ Nx : Hp → Prop, (∀ H', Nx H' → ∃ m', m' < m ∧ Wv (i + 1) m' H') ∧ ∀ x H', (Itl K a).yld i H x H' → step Nx x H') := by
  refine ⟨fun i m H => ∃ r S, r n = some a ∧ Bs r H ∧ Rel K cl r S H ∧ PostN K cl r H Qd (walkL n turn m i () S), ⟨k, r0, S0, ha, hb, rel, h⟩, ?_⟩
  rintro i m H ⟨r, S, ea, b, rel, h⟩
  have seq : ∀ xs, lstOf S (.ref n) = some xs → ∃ vs, SqL K H a vs ∧ RVs K r H xs vs := fun xs g => by
    obtain ⟨a', vs, e1, e2, e3⟩ := rel.lstOf (.ref ea) g
    cases e1
    exact ⟨vs, e2, e3⟩
  cases m with
  | zero =>
    have hl : ∃ xs, lstOf S (.ref n) = some xs ∧ xs.length ≤ i ∧ Qd H := by
      unfold walkL at h
      split at h
      · rename_i xs g
        split at h
        · rename_i hl; exact ⟨xs, by simp only [lstOf, g], hl, h r H .refl rel⟩
        · exact False.elim h
      · rename_i xs g
        split at h
        · rename_i hl; exact ⟨xs, by simp only [lstOf, g], hl, h r H .refl rel⟩
        · exact False.elim h
      · exact False.elim h
    obtain ⟨xs, g, hl, q⟩ := hl
    obtain ⟨vs, e1, e2⟩ := seq xs g
    exact .inl ⟨⟨vs, e1, by rw [← e2.length]; exact hl⟩, q⟩
  | succ k =>
    have hl : ∃ xs x, lstOf S (.ref n) = some xs ∧ xs[i]? = some x ∧ PostN K cl r H Qd ((turn x () S).bind fun a S => walkL n turn k (i + 1) a S) := by
      unfold walkL at h
      split at h
      · rename_i xs g
        split at h
        · rename_i x hx; exact ⟨xs, x, by simp only [lstOf, g], hx, h⟩
        · exact False.elim h
      · rename_i xs g
        split at h
        · rename_i x hx; exact ⟨xs, x, by simp only [lstOf, g], hx, h⟩
        · exact False.elim h
      · exact False.elim h
    obtain ⟨xs, x, g, hx, h⟩ := hl
    obtain ⟨vs, e1, e2⟩ := seq xs g
    obtain ⟨v, e3, rv⟩ := e2.get hx
    refine .inr ⟨⟨vs, v, e1, e3⟩, fun H' => ∃ r' S', r' n = some a ∧ Bs r' H' ∧ Rel K cl r' S' H' ∧ PostN K cl r' H' Qd (walkL n turn k (i + 1) () S'), fun H' q => ⟨k, Nat.lt_succ_self _, q⟩, fun y H' yl => ?_⟩
    obtain ⟨e, hy⟩ := yl
    subst e
    have ey := hy vs e1
    rw [e3] at ey
    cases ey
    refine hs r S H' x v _ rel b rv ?_
    cases e2 : turn x () S with
    | ok u S1 =>
      rw [e2] at h
      exact fun r' H2 g q => ⟨r', S1, g.ext _ _ ea, hB _ _ _ _ b g, q, PostN.mono g h⟩
    | ex y S1 => rw [e2] at h; exact False.elim h
    | no => rw [e2] at h; exact False.elim h
end
end D
end

section
set_option maxHeartbeats 1000000
/-! Comprehensions: the whole. -/
namespace D
open PySem PySem.Spec PyProof.Rows L2

section
variable {F : Fx} {N : List Str} {c : Call} {L : Nat}
theorem Post.toN {K : PySem.W.Frag} {cl : List Nm} {Wx : WX} {s : L2.St} {r : Rho} {H : Hp} {m : R Unit} {f : Unit → Sto → R W} {Q : VK} {Q' : Hp → Prop} (hn : ∀ y S, m ≠ .ex y S) (h : Post K cl Wx s r H Q (m.bind f))
    (k : ∀ S r' H', Ge K r H r' H' → Rel K cl r' S H' → Post K cl Wx s r' H' Q (f () S) → Q' H') : PostN K cl r H Q' m := by
  cases m with
  | ok v S => exact fun r' H' g q => k S r' H' g q (Post.mono g (show Post K cl Wx s r H Q (f () S) from h))
  | ex x S => exact absurd rfl (hn x S)
  | no => exact h
theorem walkI_noex {f : W → Unit → Sto → R Unit} {y : Exc} {S' : Sto} (hf : ∀ x a S, f x a S ≠ .ex y S') (w : Iw) (a : Unit) (S : Sto) : walkI w f a S ≠ .ex y S' := by
  cases w with
  | vals xs => exact walk_noex hf xs a S
  | list n k => exact walkL_noex hf k 0 a S
  | keys n ks => exact walk_noex hf ks a S
  | text z => exact walk_noex hf _ a S
theorem iterW_walks {S : Sto} {v : W} {w : Iw} (h : iterW v S = some w) : walks S v = true := by
  cases v with
  | tup xs => rfl
  | ref n =>
    simp only [iterW] at h
    simp only [walks]
    split at h
    · rename_i g; rw [g]
    · rename_i g; rw [g]
    · cases h
  | _ => cases h
/-- the readings -/
def tComp (K : PySem.W.Frag) (F : Fx) (c : Call) (Wx : WX) (xs : List Nat) (one : Bool) (it elt cnd : E) : TE := tLc (tMI K F.cl Wx (eval c it)) (gTgt K xs one) (ttOf K F.cl c cnd) (tM K F.cl W0 (eval c elt)) xs
theorem comp_plain {K : PySem.W.Frag} {Wx : WX} {xs : List Nat} {one : Bool} {it elt cnd : E} {σ : L2.St} {H : Hp} {Q : VK} {r : Rho} {w : Env} {S S1 : Sto} {v : W} {wk : Iw} (rel : Rel K F.cl r S H) (sg : RSig K r H w σ) (ev : eval c it w S = .ok v S1) (hw : iterW v S1 = some wk)
    (p : Post K F.cl Wx σ r H Q ((walkI wk (lcTurn S1.next w xs one (testOf c cnd) fun σ S => eval c elt σ S) () (S1.new (.lst []))).bind fun _ S2 => .ok (.ref S1.next) S2)) : tComp K F c Wx xs one it elt cnd σ H Q := by
  refine ⟨r, w, S, rel, sg, ?_⟩
  rw [ev]
  refine ⟨iterW_walks hw, fun r1 H1 J g1 q1 ir D hD => ?_⟩
  have g2 := ge_ext (o := .lst []) q1 hD
  have q2 : Rel K F.cl (ext r1 S1.next D) (S1.new (.lst [])) (upd H1 D (.lst [])) := q1.new hD (.lst .nil)
  have pn : PostN K F.cl (ext r1 S1.next D) (upd H1 D (.lst [])) (fun H' => Q (.ref D) H') (walkI wk (lcTurn S1.next w xs one (testOf c cnd) fun σ S => eval c elt σ S) () (S1.new (.lst []))) :=
    Post.toN (fun y S => walkI_noex (fun x a S => lcTurn_noex) wk () _) (Post.mono (g1.trans g2) p) fun S2 r2 H2 g3 q3 p3 => Post.val p3 q3 (.ref (g3.ext _ _ ext_same))
  have hB : ∀ r H r' H', (fun r H => r S1.next = some D ∧ RSig K r H w σ) r H → Ge K r H r' H' → (fun r H => r S1.next = some D ∧ RSig K r H w σ) r' H' := fun r H r' H' b g => ⟨g.ext _ _ b.1, b.2.mono g⟩
  have hs : ∀ r S H x v Nx, Rel K F.cl r S H → (fun r H => r S1.next = some D ∧ RSig K r H w σ) r H → RV K r H x v → PostN K F.cl r H Nx (lcTurn S1.next w xs one (testOf c cnd) (fun σ S => eval c elt σ S) x () S) →
      LcStep K xs one (ttOf K F.cl c cnd) (tM K F.cl W0 (eval c elt)) D σ Nx v H := fun r S H x v Nx rel b rv p => lc_turn b.1 rel b.2 rv p
  have b0 : (fun r H => r S1.next = some D ∧ RSig K r H w σ) (ext r1 S1.next D) (upd H1 D (.lst [])) := ⟨ext_same, (sg.mono g1).mono g2⟩
  cases ir with
  | tup e1 h1 =>
    cases hw
    exact lc_vals vw_tup hB hs ⟨g2.tup _ _ e1, h1.mono g2⟩ b0 q2 pn
  | rng =>
    cases hw
    exact lc_vals vw_rng hB hs trivial b0 q2 pn
  | lst e1 h1 =>
    rename_i n a ys
    have hk : ∃ k, wk = .list n k := by
      simp only [iterW] at hw
      split at hw
      · exact ⟨_, (Option.some.inj hw).symm⟩
      · exact ⟨_, (Option.some.inj hw).symm⟩
      · cases hw
    obtain ⟨k, hk⟩ := hk
    subst hk
    exact lc_list hB hs k (g2.ext _ _ e1) b0 q2 pn
  | keys e1 h1 e2 h2 =>
    simp only [iterW, h1] at hw
    cases hw
theorem isDct_inv {S : Sto} {v : W} {n : Nat} (h : isDct S v = some n) : v = .ref n ∧ n < S.next ∧ ∃ kvs, S.get n = some (.dct false kvs) := by
  unfold isDct at h
  split at h
  · split at h
    · rename_i kvs g
      split at h
      · rename_i hl
        cases h
        exact ⟨rfl, hl, kvs, g⟩
      · cases h
    · cases h
  · cases h
theorem comp_dict {K : PySem.W.Frag} {Wx : WX} {xs : List Nat} {one : Bool} {it elt cnd : E} {σ : L2.St} {H : Hp} {Q : VK} {r : Rho} {w : Env} {S S2 : Sto} {n : Nat} {kvs : List (Key × W)} (rel : Rel K F.cl r S H) (sg : RSig K r H w σ) (hn : n < S.next) (hg : S.get n = some (.dct false kvs)) (h2 : S2 = S.put n (.dct true kvs))
    (p : Post K F.cl Wx σ r H Q ((eval c it w S2).noex.bind fun v' S3 => (match v' with
      | .ref m => if m = n then (match S3.get n with
          | some (.dct true kvs) => (walk (lcTurn S3.next w xs one (testOf c cnd) fun σ S => eval c elt σ S) (kvs.map fun kv => keyW kv.1) () (S3.new (.lst []))).bind fun _ S4 => (match unlock n S4 with
            | some S5 => .ok (.ref S3.next) S5
            | none => .no)
          | _ => .no) else .no
      | _ => .no))) : tLockE (tComp K F c Wx xs one it elt cnd) σ H Q := by
  obtain ⟨d, _, _, ed, eg, _, _⟩ := rel.obj n hn
  obtain ⟨us, ad, hk⟩ := rel.dct ed hg
  refine ⟨d, .dK us, ad, trivial, fun od => ?_⟩
  have nf : ∀ ob u, H d ≠ some (.frz ob u) := fun ob u z => by rw [ad] at z; cases z
  have g0 := ge_put (o := .frz od (.dK us)) rel ed nf
  have q0 : Rel K F.cl r S2 (upd H d (.frz od (.dK us))) := by rw [h2]; exact rel.put ed nf (.dctL (hk.mono g0))
  refine ⟨r, w, S2, q0, sg.mono g0, ?_⟩
  cases ev : eval c it w S2 with
  | no => rw [ev] at p; exact False.elim p
  | ex y S3 =>
    rw [ev] at p
    exact False.elim p
  | ok v' S3 =>
    rw [ev] at p
    cases v' with
    | ref m =>
      have p1 : Post K F.cl Wx σ r H Q (if m = n then (match (generalizing := false) S3.get n with
          | some (.dct true kvs) => (walk (lcTurn S3.next w xs one (testOf c cnd) fun σ S => eval c elt σ S) (kvs.map fun kv => keyW kv.1) () (S3.new (.lst []))).bind fun _ S4 => (match unlock n S4 with
            | some S5 => .ok (.ref S3.next) S5
            | none => .no)
          | _ => .no) else .no) := p
      split at p1
      · rename_i em
        subst em
        split at p1
        · rename_i kvs3 g3
          refine ⟨by simp only [walks, g3], fun r1 H1 J g1 q1 ir D hD => ?_⟩
          have e1d : r1 m = some d := g1.ext _ _ ed
          have fz : H1 d = some (.frz od (.dK us)) := g1.frz _ _ _ upd_same
          have g2 := ge_ext (o := .lst []) q1 hD
          have q2 : Rel K F.cl (ext r1 S3.next D) (S3.new (.lst [])) (upd H1 D (.lst [])) := q1.new hD (.lst .nil)
          have hB : ∀ r H r' H', (fun r H => r S3.next = some D ∧ RSig K r H w σ) r H → Ge K r H r' H' → (fun r H => r S3.next = some D ∧ RSig K r H w σ) r' H' := fun r H r' H' b g => ⟨g.ext _ _ b.1, b.2.mono g⟩
          have hs : ∀ r S H x v Nx, Rel K F.cl r S H → (fun r H => r S3.next = some D ∧ RSig K r H w σ) r H → RV K r H x v → PostN K F.cl r H Nx (lcTurn S3.next w xs one (testOf c cnd) (fun σ S => eval c elt σ S) x () S) →
              LcStep K xs one (ttOf K F.cl c cnd) (tM K F.cl W0 (eval c elt)) D σ Nx v H := fun r S H x v Nx rel b rv p => lc_turn b.1 rel b.2 rv p
          have b0 : (fun r H => r S3.next = some D ∧ RSig K r H w σ) (ext r1 S3.next D) (upd H1 D (.lst [])) := ⟨ext_same, ((sg.mono g0).mono g1).mono g2⟩
          have pn : PostN K F.cl (ext r1 S3.next D) (upd H1 D (.lst [])) (fun H' => H' d = some (.frz od (.dK us)) ∧ Q (.ref D) (upd H' d (.dK us))) (walk (lcTurn S3.next w xs one (testOf c cnd) fun σ S => eval c elt σ S) (kvs3.map fun kv => keyW kv.1) () (S3.new (.lst []))) := by
            cases e4 : walk (lcTurn S3.next w xs one (testOf c cnd) fun σ S => eval c elt σ S) (kvs3.map fun kv => keyW kv.1) () (S3.new (.lst [])) with
            | no => rw [e4] at p1; exact False.elim p1
            | ex y S4 => exact absurd e4 (walk_noex (fun x a S => lcTurn_noex) _ () _)
            | ok u S4 =>
              rw [e4] at p1
              have p2 : Post K F.cl Wx σ r H Q (match (generalizing := false) unlock m S4 with
                | some S5 => .ok (.ref S3.next) S5
                | none => .no) := p1
              intro r4 H4 g4 q4
              have fz4 : H4 d = some (.frz od (.dK us)) := g4.frz _ _ _ (g2.frz _ _ _ fz)
              refine ⟨fz4, ?_⟩
              have ed4 : r4 m = some d := g4.ext _ _ (g2.ext _ _ e1d)
              cases eu : unlock m S4 with
              | none => rw [eu] at p2; exact False.elim p2
              | some S5 =>
                rw [eu] at p2
                unfold unlock at eu
                split at eu
                · rename_i kvs4 g5
                  cases eu
                  obtain ⟨o5, a5, n5⟩ := q4.node ed4 g5
                  rw [fz4] at a5
                  cases a5
                  cases n5 with
                  | dctL hk4 =>
                    have gt : Gt r4 H4 r4 (upd H4 d (.dK us)) := ⟨fun _ _ h => h, fun b vs ⟨ob, h, dn⟩ => ⟨ob, by
                      have ne : b ≠ d := fun z => by rw [z, fz4] at h; cases h
                      rw [upd_ne ne]; exact h, dn⟩⟩
                    have q5 := q4.lay ed4 gt (.dct (hk4.monoT gt))
                    have go : Ge K r H r4 (upd H4 d (.dK us)) := by
                      have gg := (g0.trans g1).trans (g2.trans g4)
                      refine ⟨gg.ext, fun b vs ⟨ob, h, dn⟩ => ⟨ob, ?_, dn⟩, fun b o u h => ?_⟩
                      · have ne : b ≠ d := fun z => by rw [z, ad] at h; cases h
                        rw [upd_ne ne]; exact gg.frz b ob _ h
                      · have ne : b ≠ d := fun z => by rw [z, ad] at h; cases h
                        rw [upd_ne ne]; exact gg.frz b o u h
                    exact p2 r4 _ (.ref D) go q5 (.ref (g4.ext _ _ ext_same))
                · cases eu
          cases ir with
          | lst e1 h1 => simp only [lstOf, g3] at h1; cases h1
          | keys e1 h1 e2 h2 =>
            rename_i a o kv us'
            rw [e1d] at e1
            cases e1
            rw [fz] at e2
            cases e2
            rw [g3] at h1
            cases h1
            have ne : d ≠ D := ne_of_none fz hD
            exact lc_vals (vw_keys (rkv_keys h2)) hB hs (by rw [upd_ne ne]; exact fz) b0 q2 pn
        · exact False.elim p1
      · exact False.elim p1
    | _ => exact False.elim p
theorem chk_sing {e : E} {sc : Scope} {xs : List Expr} (hl : xs.length ≤ 1) (h : chk F N e .e sc xs = true) : ∃ x, xs = [x] := by
  match xs, h with
  | [x], _ => exact ⟨x, rfl⟩
  | [], h => cases e <;> first | cases h | (have q := (band h).2; cases q) | (have q := (band h).2; have q := (band q).2; cases q)
  | x :: y :: zs, h => exact absurd hl (by simp)
theorem lc_inv {xs : List Nat} {one : Bool} {it elt cnd : E} (hit : Snd F N c L it) (helt : Snd F N c L elt) (hcnd : Snd F N c L cnd) {X : Cx} {Wx : WX} {x : Expr} (ok : Ok F N c L X) (tk : Takes X Wx) (h : chk F N (.lc xs one it elt cnd) .e X.env.scope [x] = true) :
    ∃ e t i ifs scope p, x = .ListComp e [⟨t, i, ifs, 0⟩] scope p ∧ PI X t i (tMI X.K F.cl Wx (eval c it)) ∧ BlkOk X.N X.env.scope scope (ownOf N xs) ∧ (ownOf N xs).map (·.2) = xs ∧
      (∀ (s : Shared) (H : Hp) (C : Addr) (cl : List (Str × Addr)) (fp : List Addr), PG (X.blk s H scope (compEnvC scope cl C X.env) fp) t (gTgt X.K xs one)) ∧
      (∀ (s : Shared) (H : Hp) (C : Addr) (cl : List (Str × Addr)) (fp : List Addr), PTs (X.blk s H scope (compEnvC scope cl C X.env) fp) ifs (ttOf X.K F.cl c cnd)) ∧
      (∀ (s : Shared) (H : Hp) (C : Addr) (cl : List (Str × Addr)) (fp : List Addr), PE (X.blk s H scope (compEnvC scope cl C X.env) fp) e (tM X.K F.cl W0 (eval c elt))) ∧
      (∀ y, foldedSetIterable i X.env y = pure y) := by
  obtain ⟨e, t, i, ifs, scope, p, ex, h1, h2, h3, h4, h5, h6, h7, hl⟩ := cLc_inv h
  cases ex
  have okB : ∀ (s : Shared) (H : Hp) (C : Addr) (cl : List (Str × Addr)) (fp : List Addr), Ok F N c L (X.blk s H scope (compEnvC scope cl C X.env) fp) := fun s H C cl fp =>
    ⟨ok.fa, ok.hN, ok.nd, ok.calm, ok.room, ⟨ok.fns.ok, ok.fns.non, ok.fns.len⟩⟩
  refine ⟨e, t, i, ifs, scope, p, rfl, hit.pi X Wx t i ok tk h2, by rw [ok.hN]; exact blkOk_by h3, h4, fun s H C cl fp => ?_, fun s H C cl fp => ?_, fun s H C cl fp => ?_, fold_of h1⟩
  · exact pg_tgt (b := true) ok.calm ok.hN ok.nd (fun z => by cases z) h5
  · have hc : cnd = .no ∨ (ttOf X.K F.cl c cnd = tMT X.K F.cl W0 (eval c cnd) ∧ chk F N cnd .e (relS scope X.env.scope) ifs = true) := by
      cases cnd <;> first | exact .inl rfl | exact .inr ⟨rfl, h7⟩
    rcases hc with e1 | ⟨e1, h8⟩
    · subst e1
      have e2 := cNil_inv (show cNil ifs = true from h7)
      subst e2
      exact pts_nil
    · rw [e1]
      obtain ⟨z, ez⟩ := chk_sing hl h8
      subst ez
      exact pts_one (hcnd.pt _ W0 z (okB s H C cl fp) takes0 h8)
  · exact helt.pe _ W0 e (okB s H C cl fp) takes0 h6
theorem comp_run {xs : List Nat} {one : Bool} {it elt cnd : E} {X : Cx} {Wx : WX} {σ : L2.St} {H : Hp} {Q : VK} (h : tM X.K F.cl Wx (eval c (.lc xs one it elt cnd)) σ H Q) :
    tComp X.K F c Wx xs one it elt cnd σ H Q ∨ tLockE (tComp X.K F c Wx xs one it elt cnd) σ H Q := by
  obtain ⟨r, w, S, rel, sg, p⟩ := h
  simp only [eval] at p
  cases ev : eval c it w S with
  | no => rw [ev] at p; exact False.elim p
  | ex y S1 =>
    rw [ev] at p
    refine .inl ⟨r, w, S, rel, sg, ?_⟩
    rw [ev]
    exact p
  | ok v S1 =>
    rw [ev] at p
    cases hd : isDct S v with
    | none =>
      cases hw : iterW v S1 with
      | none =>
        have p : Post X.K F.cl Wx σ r H Q .no := by
          simp only [R.bind, hd, hw] at p
          exact p
        exact False.elim p
      | some wk =>
        simp only [R.bind, hd, hw] at p
        exact .inl (comp_plain rel sg ev hw p)
    | some n =>
      obtain ⟨e1, hn, kvs, hg⟩ := isDct_inv hd
      have hl : lock n S = some (S.put n (.dct true kvs)) := by simp only [lock, hg]
      simp only [R.bind, hd, hl] at p
      exact .inr (comp_dict rel sg hn hg rfl p)
theorem snd_lc {xs : List Nat} {one : Bool} {it elt cnd : E} (hit : Snd F N c L it) (helt : Snd F N c L elt) (hcnd : Snd F N c L cnd) : Snd F N c L (.lc xs one it elt cnd) := by
  refine .plain (fun X Wx x ok tk h => ?_) (fun X x h => ?_) rfl rfl
  · obtain ⟨e, t, i, ifs, scope, p, ex, hi, hb, ho, hg, ht, he, hf⟩ := lc_inv hit helt hcnd ok tk h
    subst ex
    have go : PE X (.ListComp e [⟨t, i, ifs, 0⟩] scope p) (tComp X.K F c Wx xs one it elt cnd) := by
      have := pe_lc (pos := p) ok.calm (by rw [ok.hN]; exact ok.nd) hi hb hg ht he hf
      rw [ho] at this
      exact this
    refine ⟨fun pins s σ H Q I q => ?_⟩
    rcases comp_run q with q | q
    · exact go.run pins s σ H Q I q
    · exact (pe_lock go).run pins s σ H Q I q
  · obtain ⟨e, t, i, ifs, scope, p, ex, _⟩ := cLc_inv h
    cases ex
    intro _; rfl
end
end D
end

section
set_option maxHeartbeats 2000000
/-! Built-in functions and types. -/
namespace D
open PySem PySem.Spec PyProof.Rows L2

section
variable (K : PySem.W.Frag) (cl : List Nm) (Wx : WX) (s0 : L2.St)
def rBi (f : Bi) : List V → Hp → VK → Prop := fun vs H Q => ∃ r S ws, Rel K cl r S H ∧ RVs K r H ws vs ∧ Post K cl Wx s0 r H Q (biW f ws S)
end
theorem insInt_perm (i : Int) : ∀ xs : List Int, (insInt i xs).Perm (i :: xs)
  | [] => List.Perm.refl _
  | j :: r => by
    unfold insInt
    split
    · exact List.Perm.refl _
    · exact ((insInt_perm i r).cons j).trans (List.Perm.swap i j r)
theorem sortInts_perm : ∀ xs : List Int, (sortInts xs).Perm xs
  | [] => List.Perm.refl _
  | i :: r => (insInt_perm i (sortInts r)).trans ((sortInts_perm r).cons i)
theorem insInt_sorted (i : Int) : ∀ {xs : List Int}, xs.Pairwise (· ≤ ·) → (insInt i xs).Pairwise (· ≤ ·)
  | [], _ => by simp [insInt]
  | j :: r, h => by
    obtain ⟨h1, h2⟩ := List.pairwise_cons.mp h
    unfold insInt
    split
    · rename_i hij
      refine List.pairwise_cons.mpr ⟨fun y hy => ?_, h⟩
      rcases List.mem_cons.mp hy with e | hy
      · rw [e]; exact hij
      · exact Int.le_trans hij (h1 y hy)
    · rename_i hij
      refine List.pairwise_cons.mpr ⟨fun y hy => ?_, insInt_sorted i h2⟩
      rcases List.mem_cons.mp ((insInt_perm i r).mem_iff.mp hy) with e | hy
      · rw [e]; omega
      · exact h1 y hy
theorem sortInts_sorted : ∀ xs : List Int, (sortInts xs).Pairwise (· ≤ ·)
  | [] => List.Pairwise.nil
  | i :: r => insInt_sorted i (sortInts_sorted r)
theorem sortInts_uniq {xs ys : List Int} (hp : ys.Perm xs) (hs : ys.Pairwise (· ≤ ·)) : ys = sortInts xs :=
  (hp.trans (sortInts_perm xs).symm).eq_of_pairwise (fun x y _ _ h1 h2 => Int.le_antisymm h1 h2) hs (sortInts_sorted xs)
theorem foldl_min : ∀ (r : List Int) (i : Int), r.foldl min i ≤ i ∧ (∀ y ∈ r, r.foldl min i ≤ y) ∧ (r.foldl min i = i ∨ r.foldl min i ∈ r)
  | [], i => ⟨Int.le_refl _, fun y h => (nomatch h), .inl rfl⟩
  | j :: r, i => by
    obtain ⟨h1, h2, h3⟩ := foldl_min r (min i j)
    rw [List.foldl_cons]
    refine ⟨by omega, fun y hy => ?_, ?_⟩
    · rcases List.mem_cons.mp hy with e | hy
      · rw [e]; omega
      · exact h2 y hy
    · rcases h3 with e | e
      · by_cases q : i ≤ j
        · exact .inl (by rw [e]; omega)
        · exact .inr (by rw [e]; exact List.mem_cons.mpr (.inl (by omega)))
      · exact .inr (List.mem_cons_of_mem _ e)
theorem foldl_max : ∀ (r : List Int) (i : Int), i ≤ r.foldl max i ∧ (∀ y ∈ r, y ≤ r.foldl max i) ∧ (r.foldl max i = i ∨ r.foldl max i ∈ r)
  | [], i => ⟨Int.le_refl _, fun y h => (nomatch h), .inl rfl⟩
  | j :: r, i => by
    obtain ⟨h1, h2, h3⟩ := foldl_max r (max i j)
    rw [List.foldl_cons]
    refine ⟨by omega, fun y hy => ?_, ?_⟩
    · rcases List.mem_cons.mp hy with e | hy
      · rw [e]; omega
      · exact h2 y hy
    · rcases h3 with e | e
      · by_cases q : j ≤ i
        · exact .inl (by rw [e]; omega)
        · exact .inr (by rw [e]; exact List.mem_cons.mpr (.inl (by omega)))
      · exact .inr (List.mem_cons_of_mem _ e)
theorem least_ok {ns : List Int} {m : Int} (h : least ns = some m) : m ∈ ns ∧ ∀ y ∈ ns, m ≤ y := by
  cases ns with
  | nil => cases h
  | cons i r =>
    cases h
    obtain ⟨h1, h2, h3⟩ := foldl_min r i
    refine ⟨?_, fun y hy => ?_⟩
    · rcases h3 with e | e
      · rw [e]; exact List.mem_cons_self
      · exact List.mem_cons_of_mem _ e
    · rcases List.mem_cons.mp hy with e | hy
      · rw [e]; exact h1
      · exact h2 y hy
theorem most_ok {ns : List Int} {m : Int} (h : most ns = some m) : m ∈ ns ∧ ∀ y ∈ ns, y ≤ m := by
  cases ns with
  | nil => cases h
  | cons i r =>
    cases h
    obtain ⟨h1, h2, h3⟩ := foldl_max r i
    refine ⟨?_, fun y hy => ?_⟩
    · rcases h3 with e | e
      · rw [e]; exact List.mem_cons_self
      · exact List.mem_cons_of_mem _ e
    · rcases List.mem_cons.mp hy with e | hy
      · rw [e]; exact h1
      · exact h2 y hy
section
variable {X : Cx} {cl : List Nm} {Wx : WX} {s0 : L2.St}
theorem cr_len : CallR X (.builtin "len") (rBi X.K cl Wx s0 .len) := by
  intro pins s σ H xs us Q I rr h
  obtain ⟨r, S, ws, rel, rv, p⟩ := h
  cases rv with
  | nil => exact False.elim p
  | cons h1 h2 => cases h2 with
    | cons _ _ => exact False.elim p
    | nil =>
      cases h1 with
      | @tup ys a vs e1 hs => exact call_len pins s σ H _ us Q I rr ⟨_, _, rfl, .inr ⟨vs, e1.sq, hs.length⟩, p.val rel (.int _)⟩
      | str z =>
        simp only [biW] at p
        split at p
        · rename_i hl
          exact call_len pins s σ H _ us Q I rr ⟨_, _, rfl, ⟨lim_le hl, rfl⟩, p.val rel (.int _)⟩
        · exact False.elim p
      | @ref n a e1 =>
        simp only [biW] at p
        split at p
        · rename_i ys g
          obtain ⟨vs, a1, hs⟩ := rel.lst e1 g
          exact call_len pins s σ H _ us Q I rr ⟨_, _, rfl, .inl ⟨vs, SqL.of a1, hs.length⟩, p.val rel (.int _)⟩
        · rename_i ys g
          obtain ⟨o, vs, a1, hs⟩ := rel.frz e1 g
          exact call_len pins s σ H _ us Q I rr ⟨_, _, rfl, .inl ⟨vs, .inl (.inr ⟨o, a1⟩), hs.length⟩, p.val rel (.int _)⟩
        · rename_i kvs g
          obtain ⟨vs, a1, hs⟩ := rel.dct e1 g
          cases rr with
          | cons r1 r2 =>
            cases r2
            cases (show _ = Value.ref a from r1)
            refine d_len I (.inl a1) fun t s' I' => ⟨.int _, H, I', ⟨t, rfl⟩, ?_⟩
            rw [← Paired.len hs]
            exact p.val rel (.int _)
        · exact False.elim p
      | _ => exact False.elim p
theorem cr_list : CallR X (.type "list") (rBi X.K cl Wx s0 .list) := by
  intro pins s σ H xs us Q I rr h
  obtain ⟨r, S, ws, rel, rv, p⟩ := h
  cases rv with
  | nil => exact False.elim p
  | cons h1 h2 => cases h2 with
    | cons _ _ => exact False.elim p
    | nil =>
      simp only [biW] at p
      split at p
      · rename_i ys g
        obtain ⟨a, vs, e1, e2, hs⟩ := rel.seqOf h1 g
        subst e1
        refine call_list_of pins s σ H _ us Q I rr ⟨a, vs, rfl, ?_, p.mk rel (.lst hs)⟩
        rcases e2 with e2 | e2
        · exact .inl e2
        · exact .inr e2.sq
      · exact False.elim p
theorem call_tupL : CallR X (.type "tuple") (fun xs H Q => ∃ p ys, xs = [.ref p] ∧ SqL X.K H p ys ∧ ∀ l o, o.dict = none → H l = none → Q (.ref l) (upd H l (.frz o (.tup ys)))) := by
  intro pins s σ H xs us Q I r ⟨p, ys, e, hq, q⟩
  subst e
  obtain ⟨u, eu, rx⟩ := vals1 r
  subst eu
  cases rx
  obtain ⟨its, r', pl, hz⟩ := I.list hq
  refine call_tuple_list pl.isList (fun h' kp => ?_) (by rw [List.size_toArray, ← r'.length]; exact hz)
  have I1 : Inv X pins σ H { s with heap := h' } := I.kept (t' := s.toks) kp
  exact ⟨.ref _, _, tup_laid (t' := s.toks) I1 r' hz, rfl, q _ _ rfl (I1.hok.fresh (Nat.le_refl _))⟩
theorem cr_tuple : CallR X (.type "tuple") (rBi X.K cl Wx s0 .tuple) := by
  intro pins s σ H xs us Q I rr h
  obtain ⟨r, S, ws, rel, rv, p⟩ := h
  cases rv with
  | nil => exact False.elim p
  | cons h1 h2 => cases h2 with
    | cons _ _ => exact False.elim p
    | nil =>
      simp only [biW] at p
      split at p
      · rename_i ys g
        obtain ⟨a, vs, e1, e2, hs⟩ := rel.seqOf h1 g
        subst e1
        rcases e2 with e2 | e2
        · exact call_tupL pins s σ H _ us Q I rr ⟨a, vs, rfl, e2, p.tup rel hs⟩
        · exact call_tuple_of pins s σ H _ us Q I rr ⟨a, vs, rfl, .inr ⟨e2.sq, p.val rel (.tup e2 hs)⟩⟩
      · exact False.elim p
theorem lst_pairs {K : PySem.W.Frag} {r : Rho} {H : Hp} : ∀ {ws : List W} {vs : List V} {kvs : List (Key × W)}, RVs K r H ws vs → pairsOf ws = some kvs →
    ∃ (ps : List Addr) (us : List (Key × V)), vs = ps.map V.ref ∧ Paired (fun p kv => SqT K H p [kV kv.1, kv.2]) ps us ∧ RKV K r H kvs us
  | _, _, kvs, .nil, e => by
    simp only [pairsOf, Option.some.injEq] at e
    subst e
    exact ⟨[], [], rfl, .nil, .nil⟩
  | w :: ws, v :: vs, kvs, .cons h hs, e => by
    unfold pairsOf at e
    split at e
    · rename_i q; cases q
    · rename_i k b rest q
      cases q
      split at e
      · rename_i k' l e1 e2
        cases e
        obtain ⟨ps, us, e3, hp, hr⟩ := lst_pairs hs e2
        cases h with
        | @tup _ a zs ea hz =>
          cases hz with
          | cons z1 z2 => cases z2 with
            | cons z3 z4 => cases z4 with
              | nil =>
                have ek := z1.key e1
                subst ek
                exact ⟨a :: ps, (k', _) :: us, by rw [e3]; rfl, .cons ea.sq hp, .cons ⟨rfl, z3⟩ hr⟩
      · cases e
    · cases e
theorem cr_dict (hc : X.calm = true) : CallR X (.type "dict") (rBi X.K cl Wx s0 .dict) := by
  intro pins s σ H xs us Q I rr h
  obtain ⟨r, S, ws, rel, rv, p⟩ := h
  cases rv with
  | nil => exact False.elim p
  | cons h1 h2 => cases h2 with
    | cons _ _ => cases h1 <;> exact False.elim p
    | nil =>
      cases h1 with
      | @ref n a e1 =>
        simp only [biW] at p
        split at p
        · rename_i ys g
          obtain ⟨vs, a1, hs⟩ := rel.lst e1 g
          split at p
          · rename_i kvs gp
            obtain ⟨ps, us', e3, hp, hr⟩ := lst_pairs hs gp
            subst e3
            exact call_dictP hc pins s σ H _ us Q I rr ⟨a, ps, us', rfl, SqL.of a1, hp, p.mk rel (.dct (rkv_merge hr .nil))⟩
          · exact False.elim p
        · rename_i kvs g
          obtain ⟨us', a1, hs⟩ := rel.dct e1 g
          exact call_dictD pins s σ H _ us Q I rr ⟨a, us', rfl, .inl a1, p.mk rel (.dct hs)⟩
        · exact False.elim p
      | _ => exact False.elim p
theorem keys_ints {kvs : List (Key × W)} : ∀ {ns : List Int}, intsOf (kvs.map fun kv => keyW kv.1) = some ns → kvs.map (·.1) = ns.map Sum.inl := by
  induction kvs with
  | nil => intro ns e; simp only [List.map_nil, intsOf, Option.some.injEq] at e; subst e; rfl
  | cons p r ih =>
    intro ns e
    obtain ⟨k, v⟩ := p
    cases k with
    | inl i =>
      have e : (intsOf (r.map fun kv => keyW kv.1)).map (i :: ·) = some ns := e
      cases q : intsOf (r.map fun kv => keyW kv.1) with
      | none => rw [q] at e; cases e
      | some ms =>
        rw [q] at e
        have e' : i :: ms = ns := by simpa using e
        subst e'
        rw [List.map_cons, List.map_cons, ih q]
    | inr x => cases e
theorem cr_sort (hc : X.calm = true) : CallR X (.builtin "sorted") (rBi X.K cl Wx s0 .sorted) := by
  intro pins s σ H xs us Q I rr h
  obtain ⟨r, S, ws, rel, rv, p⟩ := h
  cases rv with
  | nil => exact False.elim p
  | cons h1 h2 => cases h2 with
    | cons _ _ => exact False.elim p
    | nil =>
      simp only [biW] at p
      split at p
      · rename_i ns g
        cases h1 with
        | @ref n a e1 =>
          simp only [keysOf] at g
          split at g
          · rename_i ys g2
            obtain ⟨vs, a1, hs⟩ := rel.lst e1 g2
            have ev := hs.ints g
            subst ev
            refine cr_sortedI pins s σ H _ us Q I rr ⟨a, ns, rfl, SqL.of a1, fun ns' q hp hsrt hq => ?_⟩
            rw [sortInts_uniq hp hsrt]
            exact p.mk rel (.lst (rvs_ints _)) q hq
          · rename_i kvs g2
            split at g
            · rename_i hl
              obtain ⟨vs, a1, hs⟩ := rel.dct e1 g2
              have hk := keys_ints g
              have hl2 : ns.length < 64 := by
                have := congrArg List.length hk
                simp only [List.length_map] at this
                omega
              refine call_sortedDI hc pins s σ H _ us Q I rr ⟨a, vs, ns, rfl, .inl a1, by rw [← rkv_keys hs, hk], hl2, fun ns' q hp hsrt hq => ?_⟩
              rw [sortInts_uniq hp hsrt]
              exact p.mk rel (.lst (rvs_ints _)) q hq
            · cases g
          · cases g
        | _ => cases g
      · exact False.elim p
theorem one_list {K : PySem.W.Frag} {cl : List Nm} {r : Rho} {S : Sto} {H : Hp} {w : W} {u : V} {ws : List W} {ns : List Int} (rel : Rel K cl r S H) (h : RV K r H w u) (g : lstOf S w = some ws) (gi : intsOf ws = some ns) : ∃ a, u = .ref a ∧ SqL K H a (ns.map V.int) := by
  obtain ⟨a, vs, e1, e2, hs⟩ := rel.lstOf h g
  have ev := hs.ints gi
  subst ev
  exact ⟨a, e1, e2⟩
theorem cr_sum1 (hc : X.calm = true) : CallR X (.builtin "sum") (rBi X.K cl Wx s0 .sum) := by
  intro pins s σ H xs us Q I rr h
  obtain ⟨r, S, ws, rel, rv, p⟩ := h
  cases rv with
  | nil => exact False.elim p
  | cons h1 h2 => cases h2 with
    | cons _ _ => exact False.elim p
    | nil =>
      simp only [biW] at p
      split at p
      · rename_i ys g
        split at p
        · rename_i ns gi
          obtain ⟨a, e1, e2⟩ := one_list rel h1 g gi
          subst e1
          exact cr_sum hc pins s σ H _ us Q I rr ⟨a, ns, rfl, e2, p.val rel (.int _)⟩
        · exact False.elim p
      · exact False.elim p
theorem ltL_dec : ∀ xs ys : List Int, ltL xs ys = decide (xs < ys)
  | [], [] => rfl
  | [], _ :: _ => by simp [ltL]
  | _ :: _, [] => by simp [ltL]
  | x :: xs, y :: ys => by
    rw [ltL, ltL_dec xs ys, Bool.eq_iff_iff]
    simp [List.cons_lt_cons_iff]
/-- a tuple of numbers as data -/
def dI (ns : List Int) : PyData := .tuple (ns.map .int)
theorem dI_lt (xs ys : List Int) : PySem.W.dataLt (dI xs) (dI ys) = ltL xs ys := by
  rw [ltL_dec, ← PySem.W.dataLt_ints]
  exact PySem.W.dataLt_tuple _ _
theorem minD_dI (x : List Int) (l : List (List Int)) : PySem.W.minD (dI x) (l.map dI) = dI (l.foldl (fun a y => if ltL y a then y else a) x) := by
  unfold PySem.W.minD
  induction l generalizing x with
  | nil => rfl
  | cons y l ih =>
    rw [List.map_cons, List.foldl_cons, List.foldl_cons, dI_lt, ← ih]
    congr 1
    split <;> rfl
theorem ints_dats {S : Sto} : ∀ {ws : List W} {ns : List Int}, intsOf ws = some ns → ws = ns.map .int := by
  intro ws
  induction ws with
  | nil => intro ns e; cases e; rfl
  | cons w ws ih =>
    intro ns e
    cases w with
    | int i =>
      have e : (intsOf ws).map (i :: ·) = some ns := e
      cases q : intsOf ws with
      | none => rw [q] at e; cases e
      | some ms =>
        rw [q] at e
        cases e
        rw [ih q]; rfl
    | _ => cases e
theorem tups_map : ∀ {ws : List W} {ts : List (List Int)}, tupsOf ws = some ts → ws = ts.map fun ns => .tup (ns.map .int)
  | [], ts, e => by cases e; rfl
  | .tup xs :: r, ts, e => by
    unfold tupsOf at e
    split at e
    · rename_i ns l e1 e2
      cases e
      rw [tups_map e2, ints_dats (S := ⟨0, fun _ => none⟩) e1]; rfl
    · cases e
  | .non :: _, _, e => by cases e
  | .bl _ :: _, _, e => by cases e
  | .int _ :: _, _, e => by cases e
  | .str _ :: _, _, e => by cases e
  | .ref _ :: _, _, e => by cases e
theorem dats_int {S : Sto} {k : Nat} : ∀ ns : List Int, dats S k (ns.map W.int) = some (ns.map PyData.int)
  | [] => by simp only [List.map_nil, dats]
  | n :: ns => by simp only [List.map_cons, dats, dat, dats_int ns]
theorem dats_dI {S : Sto} {k : Nat} : ∀ ts : List (List Int), dats S k (ts.map fun ns => W.tup (ns.map .int)) = some (ts.map dI)
  | [] => by simp only [List.map_nil, dats]
  | n :: ns => by simp only [List.map_cons, dats, dat, dats_int, dats_dI ns, Option.map_some]; rfl
theorem alike_ints : ∀ xs ys : List Int, PySem.W.alikeAll (xs.map .int) (ys.map .int) = true
  | [], ys => by cases ys <;> rfl
  | _ :: _, [] => rfl
  | x :: xs, y :: ys => by
    rw [List.map_cons, List.map_cons, PySem.W.alikeAll, alike_ints xs ys]; rfl
theorem dI_alike (xs ys : List Int) : PySem.W.alike (dI xs) (dI ys) = true := by
  unfold dI
  rw [PySem.W.alike]; exact alike_ints xs ys
theorem dep_ints : ∀ xs : List Int, PyData.depthAll (xs.map .int) = 0
  | [] => rfl
  | x :: xs => by rw [List.map_cons, PyData.depthAll, dep_ints xs]; rfl
theorem dI_dep : ∀ ts : List (List Int), PyData.depthAll (ts.map dI) ≤ 1
  | [] => Nat.zero_le _
  | x :: xs => by
    have e : (dI x).depth = 1 := by unfold dI; rw [PyData.depth, dep_ints]
    have := dI_dep xs
    rw [List.map_cons, PyData.depthAll, e]; omega
theorem lay_ints : ∀ xs : List Int, PyData.canLayAll0 (xs.map .int) = true
  | [] => rfl
  | x :: xs => by rw [List.map_cons, PyData.canLayAll0, lay_ints xs]; rfl
theorem dI_lay (xs : List Int) : (dI xs).canLay0 = true := by unfold dI; rw [PyData.canLay0, lay_ints]
theorem dI_inj {xs ys : List Int} (h : dI xs = dI ys) : xs = ys := by
  unfold dI at h
  injection h with h
  induction xs generalizing ys with
  | nil => cases ys with
    | nil => rfl
    | cons _ _ => cases h
  | cons x xs ih => cases ys with
    | nil => cases h
    | cons y ys =>
      rw [List.map_cons, List.map_cons] at h
      injection h with h1 h2
      injection h1 with h1
      rw [h1, ih h2]
theorem cr_minT (hc : X.calm = true) (hu : X.A.units + 65 < cLine) {pins : List (Addr × Obj)} {s : Shared} {σ : L2.St} {H : Hp} {Q : VK} {r : Rho} {S : Sto} {a : Addr} {vs : List V} {t : List Int} {tr : List (List Int)} (I : Inv X pins σ H s) (rel : Rel X.K cl r S H) (e2 : SqL X.K H a vs)
    (hs : RVs X.K r H ((t :: tr).map fun ns => .tup (ns.map .int)) vs) (q : ∀ v, RV X.K r H (.tup ((tr.foldl (fun a y => if ltL y a then y else a) t).map .int)) v → Q v H) : wpAny (model X.prog X.w) X.A (call (.builtin "min") [.ref a]) (EP X pins σ Q) X.xe s := by
  obtain ⟨its, rv, pl, hz⟩ := I.list e2
  obtain ⟨as, hr⟩ := Dp.readsAll I _ vs its (dats_dp rel 0 _ _ vs (dats_dI (t :: tr)) hs) rv
  have ha : PySem.W.AlikeAll (dI t :: tr.map dI) := by
    have key : ∀ d ∈ dI t :: tr.map dI, ∃ ns, d = dI ns := fun d m => by
      rw [← List.map_cons] at m
      obtain ⟨ns, _, e⟩ := List.mem_map.mp m
      exact ⟨ns, e.symm⟩
    refine ⟨fun x hx y hy => ?_, fun x hx => ?_⟩
    · obtain ⟨n1, e1⟩ := key x hx
      obtain ⟨n2, e2⟩ := key y hy
      rw [e1, e2]; exact dI_alike _ _
    · obtain ⟨n1, e1⟩ := key x hx
      rw [e1]; intro z; cases z
  have hd := dI_dep (t :: tr)
  rw [List.map_cons] at hd hr
  refine PySem.W.min_list_data (I.ok.hd hc) pl.isList (by simpa using hr) ha (by omega) fun i v h' tk bs hv hr' hk => ?_
  rw [minD_dI] at hr'
  have hv' : its[i]? = some v := by simpa using hv
  obtain ⟨bs', r1, hi, _, _⟩ := PySem.W.readsAll_at hr i v hv'
  rw [← List.map_cons] at r1 hi
  rw [List.length_map] at hi
  have ed : ((t :: tr).map dI).getD i .none = dI ((t :: tr)[i]) := by rw [List.getD_eq_getElem?_getD, List.getElem?_map, List.getElem?_eq_getElem hi]; rfl
  rw [ed] at r1
  have e3 := PySem.SeqAt.Reads.unique _ _ v bs bs' (dI_lay _) hr' (PySem.W.reads_keeps hk r1)
  have e4 := dI_inj e3
  have ew : ((t :: tr).map fun ns => W.tup (ns.map .int))[i]? = some (.tup ((t :: tr)[i].map .int)) := by
    rw [List.getElem?_map, List.getElem?_eq_getElem hi]; rfl
  obtain ⟨u, eu, ru⟩ := hs.get ew
  rw [← e4] at ru
  obtain ⟨u', eu', ru'⟩ := Vals.get rv eu
  rw [hv'] at eu'
  cases eu'
  exact ⟨u, H, I.kept hk, ru', q u ru⟩
theorem cr_min1 (hc : X.calm = true) (hu : X.A.units + 65 < cLine) : CallR X (.builtin "min") (rBi X.K cl Wx s0 .min1) := by
  intro pins s σ H xs us Q I rr h
  obtain ⟨r, S, ws, rel, rv, p⟩ := h
  cases rv with
  | nil => exact False.elim p
  | cons h1 h2 => cases h2 with
    | cons _ _ => exact False.elim p
    | nil =>
      simp only [biW] at p
      split at p
      · rename_i ys g
        split at p
        · rename_i ns gi
          split at p
          · rename_i m hm
            obtain ⟨a, e1, e2⟩ := one_list rel h1 g gi
            obtain ⟨m1, m2⟩ := least_ok hm
            subst e1
            refine cr_min hc pins s σ H _ us Q I rr ⟨a, ns, rfl, e2, List.length_pos_of_mem m1, fun k k1 k2 => ?_⟩
            have ek : k = m := Int.le_antisymm (k2 m m1) (m2 k k1)
            rw [ek]
            exact p.val rel (.int _)
          · exact False.elim p
        · split at p
          · rename_i ts gt
            cases ts with
            | nil => exact False.elim p
            | cons t tr =>
              obtain ⟨a, vs, e1, e2, hs⟩ := rel.lstOf h1 g
              rw [tups_map gt] at hs
              subst e1
              cases rr with
              | cons r1 r2 =>
                cases r2
                cases (show _ = Value.ref a from r1)
                exact cr_minT hc hu I rel e2 hs fun v rv => p.val rel rv
          · exact False.elim p
      · exact False.elim p
theorem cr_max1 (hc : X.calm = true) : CallR X (.builtin "max") (rBi X.K cl Wx s0 .max1) := by
  intro pins s σ H xs us Q I rr h
  obtain ⟨r, S, ws, rel, rv, p⟩ := h
  cases rv with
  | nil => exact False.elim p
  | cons h1 h2 => cases h2 with
    | cons _ _ => exact False.elim p
    | nil =>
      simp only [biW] at p
      split at p
      · rename_i ys g
        split at p
        · rename_i ns gi
          split at p
          · rename_i m hm
            obtain ⟨a, e1, e2⟩ := one_list rel h1 g gi
            obtain ⟨m1, m2⟩ := most_ok hm
            subst e1
            refine cr_max hc pins s σ H _ us Q I rr ⟨a, ns, rfl, e2, List.length_pos_of_mem m1, fun k k1 k2 => ?_⟩
            have ek : k = m := Int.le_antisymm (m2 k k1) (k2 m m1)
            rw [ek]
            exact p.val rel (.int _)
          · exact False.elim p
        · exact False.elim p
      · exact False.elim p
theorem cr_min2 (hc : X.calm = true) : CallR X (.builtin "min") (rBi X.K cl Wx s0 .min2) := by
  intro pins s σ H xs us Q I rr h
  obtain ⟨r, S, ws, rel, rv, p⟩ := h
  cases rv with
  | nil => exact False.elim p
  | cons h1 h2 => cases h2 with
    | nil => cases h1 <;> exact False.elim p
    | cons h2 h3 => cases h3 with
      | cons _ _ => cases h1 <;> cases h2 <;> exact False.elim p
      | nil => cases h1 with
        | int i => cases h2 with
          | int j => exact call_min2 hc pins s σ H _ us Q I rr ⟨i, j, rfl, p.val rel (.int _)⟩
          | _ => exact False.elim p
        | _ => exact False.elim p
theorem cr_max2 (hc : X.calm = true) : CallR X (.builtin "max") (rBi X.K cl Wx s0 .max2) := by
  intro pins s σ H xs us Q I rr h
  obtain ⟨r, S, ws, rel, rv, p⟩ := h
  cases rv with
  | nil => exact False.elim p
  | cons h1 h2 => cases h2 with
    | nil => cases h1 <;> exact False.elim p
    | cons h2 h3 => cases h3 with
      | cons _ _ => cases h1 <;> cases h2 <;> exact False.elim p
      | nil => cases h1 with
        | int i => cases h2 with
          | int j => exact call_max2 hc pins s σ H _ us Q I rr ⟨i, j, rfl, p.val rel (.int _)⟩
          | _ => exact False.elim p
        | _ => exact False.elim p
theorem cr_int : CallR X (.type "int") (rBi X.K cl Wx s0 .int) := by
  intro pins s σ H xs us Q I rr h
  obtain ⟨r, S, ws, rel, rv, p⟩ := h
  cases rv with
  | nil => exact False.elim p
  | cons h1 h2 => cases h2 with
    | cons _ _ => cases h1 <;> exact False.elim p
    | nil => cases h1 with
      | int i => exact call_int1 pins s σ H _ us Q I rr (.inl ⟨i, rfl, p.val rel (.int _)⟩)
      | bl b => exact call_int1 pins s σ H _ us Q I rr (.inr ⟨b, rfl, p.val rel (.int _)⟩)
      | str z =>
        simp only [biW] at p
        split at p
        · rename_i hl
          split at p
          · rename_i n hn
            exact call_int_str pins s σ H _ us Q I rr ⟨z, n, rfl, hn, hl, p.val rel (.int _)⟩
          · exact False.elim p
        · exact False.elim p
      | _ => exact False.elim p
theorem cr_str : CallR X (.type "str") (rBi X.K cl Wx s0 .str) := by
  intro pins s σ H xs us Q I rr h
  obtain ⟨r, S, ws, rel, rv, p⟩ := h
  cases rv with
  | nil => exact False.elim p
  | cons h1 h2 => cases h2 with
    | cons _ _ => cases h1 <;> exact False.elim p
    | nil => cases h1 with
      | int i =>
        simp only [biW] at p
        split at p
        · rename_i hl
          refine call_str_int pins s σ H _ us Q I rr ⟨i, rfl, ?_, p.val rel (.str _)⟩
          exact Nat.lt_of_lt_of_le (PySem.Flt.log2_lt_of (k := 100) (by decide) (Nat.lt_trans hl (by decide))) (by decide)
        · exact False.elim p
      | _ => exact False.elim p
end
end D
end

section
set_option maxHeartbeats 2000000
/-! Built-in functions as expressions; isinstance; methods of built-in types. -/
namespace D
open PySem PySem.Spec PyProof.Rows L2

section
variable {F : Fx} {N : List Str} {c : Call} {L : Nat}
/-- range(..) as an argument, by its arguments -/
theorem prg_a {X : Cx} {x : Expr} {es : List Expr} {ta : TA} {p pos : Pos} (hg : Gl X "range") (hm : X.mg "range" = none) (ha : PA X (x :: es) ta) (na : starEach (x :: es) X.env = (false, PySem.eval x X.env) :: starEach es X.env) (hp : (backTo pos (starEach es X.env)).any (·.1) = false) :
    PRg X (.Call (.Name "range" p) (x :: es) [] pos) (fun σ H Q => ta σ H fun vs H1 => (∃ n, vs = [.int n] ∧ Q 0 n H1) ∨ (∃ i j, vs = [.int i, .int j] ∧ Q i j H1)) := by
  intro pins s σ H Q I h
  refine Call_ (ld_blt I hg hm boot_range (PyProof.Rows.callWith_type1 (thn (ha.run pos pins s σ H _ I h) fun us s1 ⟨vs, H1, I1, r1, q1⟩ => ?_) na hp))
  rcases q1 with ⟨n, e, q⟩ | ⟨i, j, e, q⟩
  · subst e
    cases r1 with
    | cons r2 r3 =>
      cases r3
      obtain ⟨t, e⟩ := r2
      subst e
      exact call_range_1 ⟨_, 0, n, _, _, _, H1, rfl, IsRange.new _ _ _ _ _ _ _, I1.kept (fun b u e => Heap.get?_push_of_some _ e), q⟩
  · subst e
    cases r1 with
    | cons r2 r3 => cases r3 with
      | cons r4 r5 =>
        cases r5
        obtain ⟨t, e⟩ := r2
        subst e
        obtain ⟨t', e⟩ := r4
        subst e
        exact call_range_2 ⟨_, i, j, _, _, _, H1, rfl, IsRange.new _ _ _ _ _ _ _, I1.kept (fun b u e => Heap.get?_push_of_some _ e), q⟩
theorem rvs_rg {K : PySem.W.Frag} {r : Rho} {H : Hp} {lo hi : Int} : RVs K r H (rangeW lo hi) (rgV lo hi) := by
  unfold rangeW rgV
  induction List.range (hi - lo).toNat with
  | nil => exact .nil
  | cons k l ih => exact .cons (.int _) ih
theorem cBi2_inv {F : Fx} {sc : Scope} {f : Bi} {a : Bool} {g : Ck} {xs : List Expr} (h : cBi2 F sc f a g xs = true) : ∃ p es q, xs = [.Call (.Name (biS f) p) es [] q] ∧ glo sc (biS f) = true ∧ (biS f : Str) ∈ F.free ∧
    (if fuse f then inOk f && decide (es.length = 1) else a && decide (es.length = biN f)) = true ∧ (if fuse f then cBi F sc (inS f) (fun n => a && decide (n = inN f)) g else g) es = true := cBi_inv h
theorem snd_bi {f : Bi} {as : E} (ha : Snd F N c L as) : Snd F N c L (.bi f as) := by
  refine .plain (fun X Wx x ok tk h => ?_) (fun X x h => ?_) rfl rfl
  · obtain ⟨p, es, q, e, h1, h2, h3, h4⟩ := cBi2_inv (show cBi2 F X.env.scope f (isArgs as) (chk F N as .a X.env.scope) [x] = true from h)
    cases e
    have hm := ok.fa.free _ h2
    have hg := gl_of h1 rfl
    by_cases hf : fuse f = true
    · rw [if_pos hf] at h3 h4
      obtain ⟨hk, hn⟩ := band h3
      have hn := dec_of hn
      obtain ⟨y, e⟩ : ∃ y, es = [y] := by
        cases es with
        | nil => cases hn
        | cons y r => cases r with
          | nil => exact ⟨y, rfl⟩
          | cons _ _ => cases hn
      subst e
      obtain ⟨p2, es2, q2, e, g1, g2, g3, g4⟩ := cBi_inv h4
      cases e
      obtain ⟨g0, gn⟩ := band g3
      have gn := dec_of gn
      obtain ⟨hp, hs⟩ := ha.pa X Wx es2 ok tk g0 g4
      have hm2 := ok.fa.free _ g2
      have hg2 := gl_of g1 rfl
      have lr : f = .lrng1 ∨ f = .lrng2 := by cases f <;> first | exact .inl rfl | exact .inr rfl | cases hk
      have e1 : inS f = "range" := by rcases lr with e | e <;> rw [e] <;> rfl
      have e2 : biS f = "list" := by rcases lr with e | e <;> rw [e] <;> rfl
      rw [e1] at hm2 hg2 ⊢
      rw [e2] at hm hg ⊢
      cases es2 with
      | nil => rcases lr with e | e <;> rw [e] at gn <;> cases gn
      | cons z zs =>
        rw [List.all_cons, Bool.and_eq_true] at hs
        refine ⟨fun pins s σ H Q I ⟨r, w, S, rel, sg, pp⟩ => (pe_listRg ok.calm hg hm (prg_a hg2 hm2 hp (star1 hs.1) (stars hs.2)) (star1 rfl)).run pins s σ H Q I ⟨r, w, S, rel, sg, ?_⟩⟩
        simp only [eval] at pp
        refine Post.argsA g0 pp fun ws S1 r1 H1 us el g1 q1 v1 p1 => ?_
        have p1 : Post X.K F.cl Wx σ r1 H1 Q (biW f ws S1) := p1
        rcases lr with e | e
        · subst e
          cases v1 with
          | nil => exact False.elim p1
          | cons v1 v2 => cases v2 with
            | cons _ _ => cases v1 <;> exact False.elim p1
            | nil => cases v1 with
              | int n =>
                simp only [biW] at p1
                split at p1
                · rename_i hl
                  exact .inl ⟨n, rfl, ⟨by omega, by omega, by omega, by omega, by omega⟩, p1.mk q1 (.lst rvs_rg)⟩
                · exact False.elim p1
              | _ => exact False.elim p1
        · subst e
          cases v1 with
          | nil => exact False.elim p1
          | cons v1 v2 => cases v2 with
            | nil => cases v1 <;> exact False.elim p1
            | cons v2 v3 => cases v3 with
              | cons _ _ => cases v1 <;> cases v2 <;> exact False.elim p1
              | nil => cases v1 with
                | int i => cases v2 with
                  | int j =>
                    simp only [biW] at p1
                    split at p1
                    · rename_i hl
                      exact .inr ⟨i, j, rfl, ⟨by omega, by omega, by omega, by omega, by omega⟩, p1.mk q1 (.lst rvs_rg)⟩
                    · exact False.elim p1
                  | _ => exact False.elim p1
                | _ => exact False.elim p1
    rw [if_neg hf] at h3 h4
    obtain ⟨h0, hn⟩ := band h3
    have hf : fuse f = false := by simpa using hf
    obtain ⟨hp, hs⟩ := ha.pa X Wx es ok tk h0 h4
    refine ⟨fun pins s σ H Q I ⟨r, w, S, rel, sg, p⟩ => ?_⟩
    simp only [eval] at p
    have go : tCB (rBi X.K F.cl Wx σ f) (tMA X.K F.cl Wx (eval c as)) σ H Q := ⟨r, w, S, rel, sg, Post.argsA h0 p fun ws S1 r1 H1 us el g1 q1 v1 p1 => ⟨r1, S1, ws, q1, v1, p1⟩⟩
    cases es with
    | nil =>
      have hn := dec_of hn
      cases f <;> first | cases hn | cases hf
    | cons e es =>
      rw [List.all_cons, Bool.and_eq_true] at hs
      cases f with
      | len => exact (pe_callB cr_len hg hm (by decide +kernel) hp (he := star1 hs.1) (hpl := stars hs.2)).run pins s σ H Q I go
      | list => exact (pe_callTy cr_list hg hm (by decide +kernel) hp (he := star1 hs.1) (hpl := stars hs.2)).run pins s σ H Q I go
      | tuple => exact (pe_callTy cr_tuple hg hm (by decide +kernel) hp (he := star1 hs.1) (hpl := stars hs.2)).run pins s σ H Q I go
      | dict => exact (pe_callTy (cr_dict ok.calm) hg hm (by decide +kernel) hp (he := star1 hs.1) (hpl := stars hs.2)).run pins s σ H Q I go
      | sorted => exact (pe_callB (cr_sort ok.calm) hg hm (by decide +kernel) hp (he := star1 hs.1) (hpl := stars hs.2)).run pins s σ H Q I go
      | sum => exact (pe_callB (cr_sum1 ok.calm) hg hm (by decide +kernel) hp (he := star1 hs.1) (hpl := stars hs.2)).run pins s σ H Q I go
      | min1 => exact (pe_callB (cr_min1 ok.calm (hu65 ok)) hg hm (by decide +kernel) hp (he := star1 hs.1) (hpl := stars hs.2)).run pins s σ H Q I go
      | max1 => exact (pe_callB (cr_max1 ok.calm) hg hm (by decide +kernel) hp (he := star1 hs.1) (hpl := stars hs.2)).run pins s σ H Q I go
      | min2 => exact (pe_callB (cr_min2 ok.calm) hg hm (by decide +kernel) hp (he := star1 hs.1) (hpl := stars hs.2)).run pins s σ H Q I go
      | max2 => exact (pe_callB (cr_max2 ok.calm) hg hm (by decide +kernel) hp (he := star1 hs.1) (hpl := stars hs.2)).run pins s σ H Q I go
      | int => exact (pe_callTy cr_int hg hm (by decide +kernel) hp (he := star1 hs.1) (hpl := stars hs.2)).run pins s σ H Q I go
      | str => exact (pe_callTy cr_str hg hm (by decide +kernel) hp (he := star1 hs.1) (hpl := stars hs.2)).run pins s σ H Q I go
      | sortset => cases hf
      | lrng1 => cases hf
      | lrng2 => cases hf
      | sum0 => cases hf
  · obtain ⟨p, es, q, e, h1, h2, h3, h4⟩ := cBi2_inv (show cBi2 F X.env.scope f (isArgs as) (chk F N as .a X.env.scope) [x] = true from h)
    cases e
    intro _; rfl
def kb : Ty → Nat → Bool
  | .int, 1 => true
  | .int, 2 => true
  | .bool, 1 => true
  | .str, 3 => true
  | .tuple, 4 => true
  | .list, 5 => true
  | _, _ => false
theorem kit_all (t : Ty) : kitB "NoneType" (tyS t) = some (kb t 0) ∧ kitB "bool" (tyS t) = some (kb t 1) ∧ kitB "int" (tyS t) = some (kb t 2) ∧ kitB "str" (tyS t) = some (kb t 3) ∧ kitB "tuple" (tyS t) = some (kb t 4) ∧ kitB "list" (tyS t) = some (kb t 5) ∧ kitB "dict" (tyS t) = some (kb t 6) := by
  cases t <;> decide +kernel
theorem isi_ok {K : PySem.W.Frag} {cl : List Nm} {r : Rho} {S : Sto} {H : Hp} {t : Ty} {a : W} {u : V} {b : Bool} (rel : Rel K cl r S H) (q : RV K r H a u) (e : isiW t a S = some b) : ∃ y, TyX K H u y ∧ PySem.W.kitOne K y (.type (tyS t)) = some b := by
  obtain ⟨k1, k2, k3, k4, k5, k6, k7⟩ := kit_all t
  cases q with
  | non =>
    refine ⟨_, .base .non, ?_⟩
    have : b = kb t 0 := by cases t <;> exact (Option.some.inj e).symm
    rw [this]; exact kit_ty k1
  | bl x =>
    refine ⟨_, .base (.bl x), ?_⟩
    have : b = kb t 1 := by cases t <;> exact (Option.some.inj e).symm
    rw [this]; exact kit_ty k2
  | int i =>
    refine ⟨_, .base (.int i), ?_⟩
    have : b = kb t 2 := by cases t <;> exact (Option.some.inj e).symm
    rw [this]; exact kit_ty k3
  | str x =>
    refine ⟨_, .base (.str x), ?_⟩
    have : b = kb t 3 := by cases t <;> exact (Option.some.inj e).symm
    rw [this]; exact kit_ty k4
  | @tup xs ad vs e1 hs =>
    obtain ⟨o, e1, _⟩ := e1
    refine ⟨_, .fTuple e1, ?_⟩
    have : b = kb t 4 := by cases t <;> exact (Option.some.inj e).symm
    rw [this]; exact kit_ty k5
  | @ref n ad e1 =>
    cases g : S.get n with
    | none => cases t <;> (simp only [isiW, g] at e; cases e)
    | some d =>
      cases d with
      | lst xs =>
        obtain ⟨vs, a1, hs⟩ := rel.lst e1 g
        refine ⟨_, .base (.lst a1), ?_⟩
        have : b = kb t 5 := by cases t <;> (simp only [isiW, g] at e; exact (Option.some.inj e).symm)
        rw [this]; exact kit_ty k6
      | frz xs =>
        obtain ⟨o, vs, a1, hs⟩ := rel.frz e1 g
        refine ⟨_, .base (.frz a1), ?_⟩
        have : b = kb t 5 := by cases t <;> (simp only [isiW, g] at e; exact (Option.some.inj e).symm)
        rw [this]; exact kit_ty k6
      | dct l kvs =>
        have hb : b = kb t 6 := by cases t <;> (simp only [isiW, g] at e; exact (Option.some.inj e).symm)
        obtain ⟨o, a1, hn⟩ := rel.node e1 g
        cases hn with
        | dct hk => exact ⟨_, .base (.dK a1), by rw [hb]; exact kit_ty k7⟩
        | dctL hk => exact ⟨_, .fDict a1, by rw [hb]; exact kit_ty k7⟩
      | ins k fs => cases t <;> (simp only [isiW, g] at e; cases e)
theorem snd_isi {a : E} {t : Ty} (ha : Snd F N c L a) : Snd F N c L (.isi a t) := by
  refine .plain (fun X Wx x ok tk h => ?_) (fun X x h => ?_) rfl rfl
  · obtain ⟨p, y, q, q2, e, h1, h2, h3, h4, h5, h6⟩ := cIsi_inv h
    cases e
    have hT : PE X (.Name (tyS t : Str) q) (tC (.ty (tyS t))) := by
      have hm := ok.fa.free _ h4
      have hg := gl_of h3 rfl
      cases t with
      | int => exact pe_bltn hg hm (show bootBuiltins "int" = some (.type "int") by decide +kernel) rfl
      | bool => exact pe_bltn hg hm (show bootBuiltins "bool" = some (.type "bool") by decide +kernel) rfl
      | str => exact pe_bltn hg hm (show bootBuiltins "str" = some (.type "str") by decide +kernel) rfl
      | tuple => exact pe_bltn hg hm (show bootBuiltins "tuple" = some (.type "tuple") by decide +kernel) rfl
      | list => exact pe_bltn hg hm (show bootBuiltins "list" = some (.type "list") by decide +kernel) rfl
    refine ⟨fun pins s σ H Q I ⟨r, w, S, rel, sg, p⟩ => (pe_callB call_isi (gl_of h1 rfl) (ok.fa.free _ h2) (by decide +kernel) (pa_cons (ha.pe X Wx y ok tk h6) (pa_cons hT pa_nil) (star1 h5)) (he := star1 h5)).run pins s σ H Q I ⟨r, w, S, rel, sg, ?_⟩⟩
    simp only [eval] at p
    refine p.bind fun x S1 r1 H1 u g1 q1 v1 p1 => ?_
    obtain ⟨b, eb, qb⟩ := post_bool p1 q1
    obtain ⟨y, ty, kt⟩ := isi_ok q1 v1 eb
    exact ⟨u, .ty (tyS t), y, .type (tyS t), b, rfl, .ty _, ty, kt, qb⟩
  · obtain ⟨p, y, q, q2, e, h1, h2, h3, h4, h5, h6⟩ := cIsi_inv h
    cases e
    intro _; rfl
end
end D
end

section
set_option maxHeartbeats 2000000
/-! Methods of built-in types. -/
namespace D
open PySem PySem.Spec PyProof.Rows L2

section
variable (K : PySem.W.Frag) (cl : List Nm) (Wx : WX) (s0 : L2.St)
/-- a method by values, the receiver's kind known -/
def rBm (k : Kd) (m : Bm) : V → List V → Hp → VK → Prop := fun v vs H Q => ∃ r S x ws, Rel K cl r S H ∧ RV K r H x v ∧ RVs K r H ws vs ∧ kd x S = some k ∧ Post K cl Wx s0 r H Q (bmW m x ws S)
end
section
variable {X : Cx} {cl : List Nm} {Wx : WX} {s0 : L2.St} {K : PySem.W.Frag} {r : Rho} {S : Sto} {H : Hp}
theorem kd_lst {x : W} {v : V} (rel : Rel K cl r S H) (q : RV K r H x v) (h : kd x S = some .lst) : ∃ n a xs vs, x = .ref n ∧ v = .ref a ∧ r n = some a ∧ S.get n = some (.lst xs) ∧ H a = some (.lst vs) ∧ RVs K r H xs vs := by
  cases q with
  | @ref n a e =>
    simp only [kd] at h
    split at h
    · rename_i xs g
      obtain ⟨vs, a1, hs⟩ := rel.lst e g
      exact ⟨n, a, xs, vs, rfl, rfl, e, g, a1, hs⟩
    · cases h
    · cases h
  | _ => cases h
theorem kd_dct {x : W} {v : V} (rel : Rel K cl r S H) (q : RV K r H x v) (h : kd x S = some .dct) : ∃ n a xs vs, x = .ref n ∧ v = .ref a ∧ r n = some a ∧ S.get n = some (.dct false xs) ∧ H a = some (.dK vs) ∧ RKV K r H xs vs := by
  cases q with
  | @ref n a e =>
    simp only [kd] at h
    split at h
    · cases h
    · rename_i xs g
      obtain ⟨vs, a1, hs⟩ := rel.dct e g
      exact ⟨n, a, xs, vs, rfl, rfl, e, g, a1, hs⟩
    · cases h
  | _ => cases h
theorem kd_str {x : W} {v : V} (q : RV K r H x v) (h : kd x S = some .str) : ∃ z, x = .str z ∧ v = .str z := by
  cases q with
  | str z => exact ⟨z, rfl, rfl⟩
  | @ref n a e =>
    simp only [kd] at h
    split at h <;> cases h
  | _ => cases h
/-- a list is written -/
theorem kd_tup {x : W} {v : V} (q : RV K r H x v) (h : kd x S = some .tup) : ∃ xs a vs, x = .tup xs ∧ v = .ref a ∧ TupAt H a vs ∧ RVs K r H xs vs := by
  cases q with
  | tup e hs => exact ⟨_, _, _, rfl, rfl, e, hs⟩
  | ref e =>
    simp only [kd] at h
    split at h <;> cases h
  | _ => cases h
theorem put_lst {n : Nat} {a : Addr} {w : W} {u : V} {Q : VK} {ys : List W} {us vs : List V} (rel : Rel K cl r S H) (e : r n = some a) (a1 : H a = some (.lst vs)) (p : Post K cl Wx s0 r H Q (.ok w (S.put n (.lst ys)))) (rw : RV K r H w u) (rs : RVs K r H ys us) : Q u (upd H a (.lst us)) := by
  have nf : ∀ ob u, H a ≠ some (.frz ob u) := fun ob u z => by rw [a1] at z; cases z
  have g := ge_put (o := .lst us) rel e nf
  exact p r _ u g (rel.put e nf (.lst (rs.mono g))) (rw.mono g)
theorem put_dct {n : Nat} {a : Addr} {w : W} {u : V} {Q : VK} {ys : List (Key × W)} {us vs : List (Key × V)} (rel : Rel K cl r S H) (e : r n = some a) (a1 : H a = some (.dK vs)) (p : Post K cl Wx s0 r H Q (.ok w (S.put n (.dct false ys)))) (rw : RV K r H w u) (rs : RKV K r H ys us) : Q u (upd H a (.dK us)) := by
  have nf : ∀ ob u, H a ≠ some (.frz ob u) := fun ob u z => by rw [a1] at z; cases z
  have g := ge_put (o := .dK us) rel e nf
  exact p r _ u g (rel.put e nf (.dct (rs.mono g))) (rw.mono g)
theorem m_append : MtR X "list.append" (rBm X.K cl Wx s0 .lst .append) := by
  intro pins s σ H x xs v us Q I rx rs h
  obtain ⟨r, S, w, ws, rel, q, qs, hk, p⟩ := h
  obtain ⟨n, a, ys, vs, rfl, rfl, e, g, a1, hs⟩ := kd_lst rel q hk
  simp only [bmW, g] at p
  split at p
  · rename_i y
    cases qs with
    | cons h1 h2 => cases h2 with
      | nil =>
        split at p
        · rename_i hl
          exact mt_append pins s σ H _ _ v us Q I rx rs ⟨a, vs, _, rfl, rfl, a1, by rw [← hs.length]; exact lim_lt hl, put_lst rel e a1 p .non (hs.append (.cons h1 .nil))⟩
        · exact False.elim p
  all_goals first | exact False.elim p | (rename_i z; cases z)
theorem m_extend : MtR X "list.extend" (rBm X.K cl Wx s0 .lst .extend) := by
  intro pins s σ H x xs v us Q I rx rs h
  obtain ⟨r, S, w, ws, rel, q, qs, hk, p⟩ := h
  obtain ⟨n, a, ys, vs, rfl, rfl, e, g, a1, hs⟩ := kd_lst rel q hk
  rcases ws with _ | ⟨w1, _ | ⟨w2, ws⟩⟩
  · simp only [bmW, g] at p; exact False.elim p
  · cases qs with
    | cons h1 h2 => cases h2 with
      | nil =>
        cases h1 with
        | @ref k b e2 =>
          simp only [bmW, g] at p
          split at p
          · rename_i zs g2
            obtain ⟨us2, a2, hs2⟩ := rel.lst e2 g2
            split at p
            · rename_i hl
              rw [hs.length, hs2.length] at hl
              exact mt_extend pins s σ H _ _ v us Q I rx rs ⟨a, b, vs, us2, rfl, rfl, a1, a2, lim_le hl, put_lst rel e a1 p .non (hs.append hs2)⟩
            · exact False.elim p
          · exact False.elim p
        | _ => simp only [bmW, g] at p; exact False.elim p
  · cases w1 <;> (simp only [bmW, g] at p; exact False.elim p)
theorem ixN_seq1 {n : Nat} {i : Int} {j : Nat} (h : ixN n i = some j) : seqIndex? i n = some j := (ixN_seq h).1
theorem m_popL : MtR X "list.pop" (rBm X.K cl Wx s0 .lst .pop) := by
  intro pins s σ H x xs v us Q I rx rs h
  obtain ⟨r, S, w, ws, rel, q, qs, hk, p⟩ := h
  obtain ⟨n, a, ys, vs, rfl, rfl, e, g, a1, hs⟩ := kd_lst rel q hk
  rcases ws with _ | ⟨w1, _ | ⟨w2, ws⟩⟩
  · simp only [bmW, g] at p; exact False.elim p
  · cases qs with
    | cons h1 h2 => cases h2 with
      | nil =>
        cases h1 with
        | int i =>
          simp only [bmW, g] at p
          split at p
          · rename_i hb
            split at p
            · rename_i j gj
              split at p
              · rename_i y gy
                obtain ⟨u, gu, ru⟩ := hs.get gy
                rw [hs.length] at gj
                exact mt_popAt pins s σ H _ _ v us Q I rx rs ⟨a, vs, i, j, u, rfl, rfl, a1, by omega, by omega, ixN_seq1 gj, gu, put_lst rel e a1 p ru (hs.eraseIdx j)⟩
              · exact False.elim p
            · exact False.elim p
          · exact False.elim p
        | _ => simp only [bmW, g] at p; exact False.elim p
  · cases w1 <;> (simp only [bmW, g] at p; exact False.elim p)
theorem m_insert : MtR X "list.insert" (rBm X.K cl Wx s0 .lst .insert) := by
  intro pins s σ H x xs v us Q I rx rs h
  obtain ⟨r, S, w, ws, rel, q, qs, hk, p⟩ := h
  obtain ⟨n, a, ys, vs, rfl, rfl, e, g, a1, hs⟩ := kd_lst rel q hk
  rcases ws with _ | ⟨w1, _ | ⟨w2, _ | ⟨w3, ws⟩⟩⟩
  · simp only [bmW, g] at p; exact False.elim p
  · cases w1 <;> (simp only [bmW, g] at p; exact False.elim p)
  · cases qs with
    | cons h1 h2 => cases h2 with
      | cons h2 h3 => cases h3 with
        | nil =>
          cases h1 with
          | int i =>
            simp only [bmW, g] at p
            split at p
            · rename_i hb
              obtain ⟨hi, hl⟩ := hb
              subst hi
              refine mt_insert pins s σ H _ _ v us Q I rx rs ⟨a, vs, 0, _, rfl, rfl, a1, by rw [← hs.length]; exact lim_lt hl, Int.le_refl _, by decide, ?_⟩
              exact put_lst (us := _ :: vs) rel e a1 p .non (.cons h2 hs)
            · exact False.elim p
          | _ => simp only [bmW, g] at p; exact False.elim p
  · cases w1 <;> (simp only [bmW, g] at p; exact False.elim p)
theorem erase_place : ∀ {ns : List Int} {k : Int}, ns.contains k = true → ∃ j, ns[j]? = some k ∧ (∀ m : Nat, m < j → ns[m]? ≠ some k) ∧ ns.erase k = ns.eraseIdx j
  | n :: ns, k, h => by
    by_cases e : n = k
    · subst e
      exact ⟨0, rfl, fun m hm => absurd hm (Nat.not_lt_zero m), by simp⟩
    · have h' : ns.contains k = true := by
        simp only [List.contains_cons, Bool.or_eq_true, beq_iff_eq] at h
        rcases h with h | h
        · exact absurd h.symm e
        · exact h
      obtain ⟨j, h1, h2, h3⟩ := erase_place h'
      refine ⟨j + 1, by simpa using h1, fun m hm => ?_, ?_⟩
      · cases m with
        | zero => simpa using e
        | succ m => simpa using h2 m (by omega)
      · have hb : (n == k) = false := beq_eq_false_iff_ne.mpr e
        rw [List.erase_cons, hb]
        simp [h3]
theorem m_remove : MtR X "list.remove" (rBm X.K cl Wx s0 .lst .remove) := by
  intro pins s σ H x xs v us Q I rx rs h
  obtain ⟨r, S, w, ws, rel, q, qs, hk, p⟩ := h
  obtain ⟨n, a, ys, vs, rfl, rfl, e, g, a1, hs⟩ := kd_lst rel q hk
  rcases ws with _ | ⟨w1, _ | ⟨w2, ws⟩⟩
  · simp only [bmW, g] at p; exact False.elim p
  · cases qs with
    | cons h1 h2 => cases h2 with
      | nil =>
        cases h1 with
        | int k =>
          simp only [bmW, g] at p
          split at p
          · rename_i ns gn
            have ev := hs.ints gn
            subst ev
            split at p
            · rename_i hc
              obtain ⟨j, j1, j2, j3⟩ := erase_place hc
              refine mt_remove pins s σ H _ _ v us Q I rx rs ⟨a, ns, k, j, rfl, rfl, a1, j1, j2, ?_⟩
              rw [← j3]
              exact put_lst rel e a1 p .non (rvs_ints _)
            · exact False.elim p
          · exact False.elim p
        | _ => simp only [bmW, g] at p; exact False.elim p
  · cases w1 <;> (simp only [bmW, g] at p; exact False.elim p)
theorem m_clear : MtR X "list.clear" (rBm X.K cl Wx s0 .lst .clear) := by
  intro pins s σ H x xs v us Q I rx rs h
  obtain ⟨r, S, w, ws, rel, q, qs, hk, p⟩ := h
  obtain ⟨n, a, ys, vs, rfl, rfl, e, g, a1, hs⟩ := kd_lst rel q hk
  rcases ws with _ | ⟨w1, ws⟩
  · cases qs
    simp only [bmW, g] at p
    exact mt_clear pins s σ H _ _ v us Q I rx rs ⟨a, vs, rfl, rfl, a1, put_lst rel e a1 p .non .nil⟩
  · cases w1 <;> (simp only [bmW, g] at p; exact False.elim p)
theorem m_count : MtR X "list.count" (rBm X.K cl Wx s0 .lst .count) := by
  intro pins s σ H x xs v us Q I rx rs h
  obtain ⟨r, S, w, ws, rel, q, qs, hk, p⟩ := h
  obtain ⟨n, a, ys, vs, rfl, rfl, e, g, a1, hs⟩ := kd_lst rel q hk
  rcases ws with _ | ⟨w1, _ | ⟨w2, ws⟩⟩
  · simp only [bmW, g] at p; exact False.elim p
  · cases qs with
    | cons h1 h2 => cases h2 with
      | nil =>
        cases h1 with
        | int k =>
          simp only [bmW, g] at p
          split at p
          · rename_i ns gn
            have ev := hs.ints gn
            subst ev
            exact mt_lcount pins s σ H _ _ v us Q I rx rs ⟨a, ns, k, rfl, rfl, SqL.of a1, p.val rel (.int _)⟩
          · exact False.elim p
        | _ => simp only [bmW, g] at p; exact False.elim p
  · cases w1 <;> (simp only [bmW, g] at p; exact False.elim p)
theorem m_countT : MtR X "tuple.count" (rBm X.K cl Wx s0 .tup .count) := by
  intro pins s σ H x xs v us Q I rx rs h
  obtain ⟨r, S, w, ws, rel, q, qs, hk, p⟩ := h
  obtain ⟨ys, a, vs, rfl, rfl, e, hs⟩ := kd_tup q hk
  rcases ws with _ | ⟨w1, _ | ⟨w2, ws⟩⟩
  · simp only [bmW] at p; exact False.elim p
  · cases qs with
    | cons h1 h2 => cases h2 with
      | nil =>
        cases h1 with
        | int k =>
          simp only [bmW] at p
          split at p
          · rename_i ns gn
            have ev := hs.ints gn
            subst ev
            cases (show v = Value.ref a from rx)
            obtain ⟨u, eu, ru⟩ := rs.one
            obtain ⟨t, et⟩ := ru
            subst eu et
            obtain ⟨its, rv, ⟨⟨cls, dd, data, sl⟩, ho, hc, n, hd⟩, hlen⟩ := I.tuple e.sq
            dsimp only at hc hd
            subst hc hd
            have hi := ints_of_vals rv
            have fin : Value.int ((its.toArray.toList.countP (eqk k) : Nat) : Int) s.toks = Value.int ((ns.count k : Nat) : Int) s.toks := by
              have ec : its.toArray.toList.countP (eqk k) = ns.count k := eqk_count hi
              rw [ec]
            exact call_meets PySem.F.slot_tuple_count ⟨_, ho, rfl⟩ PySem.F.entry_tuple_count (PySem.F.args_tuple_count_2 _ _) (SeqAt.tuple_countAt a its.toArray n dd sl (.int k t) (eqk k)) ⟨ho, fun y hy => (eqk_gives hi y (by simpa using hy)).at _ _, .int (ns.count k : Nat), H, I.tok _, ⟨s.toks, fin⟩, p.val rel (.int _)⟩
          · exact False.elim p
        | _ => simp only [bmW] at p; exact False.elim p
  · simp only [bmW] at p; exact False.elim p
/-- a tuple's method, its object known -/
theorem pe_bmT {o e : Expr} {es : List Expr} {to : TE} {t : TA} {apos cpos : Pos} {r : V → List V → Hp → VK → Prop} (hm : MtR X "tuple.count" r) (ho : PE X o to) (ha : PA X (e :: es) t)
    (hbase : attributeBase o "count" X.env (PySem.eval o X.env) = PySem.eval o X.env)
    (hfew : methodCallForm ((e :: es).length + ([] : List Keyword).length) (backTo cpos (starEach (e :: es) X.env)) (backToKw cpos (keywordEach [] X.env)) = true)
    (hline : (apos.endLine == cpos.line) = true) (hs : starEach (e :: es) X.env = (false, PySem.eval e X.env) :: starEach es X.env) (hplain : (backTo cpos (starEach es X.env)).any (·.1) = false) :
    PE X (.Call (.Attribute o "count" apos) (e :: es) [] cpos) (fun σ H Q => to σ H fun x H1 => (∃ a vs, x = .ref a ∧ TupAt H1 a vs) ∧ t σ H1 fun xs H2 => r x xs H2 Q) := by
  refine ⟨fun pins s σ H Q I h => wpAny_Call_method_late hbase hfew hline rfl (thn (ho.run pins s σ H _ I h) fun v s1 ⟨x, H1, I1, r1, ⟨a, vs, ex, ob, ea, dn⟩, q1⟩ => ?_)⟩
  subst ex
  cases (show v = Value.ref a from r1)
  obtain ⟨eo, _, its, _, ot, ho2, hc2, _⟩ := I1.hok a _ ea
  rw [eo] at ho2
  cases ho2
  refine ⟨"tuple", _, PySem.F.plainAttrs_tuple, PySem.F.slot_tuple_count, PySem.F.type_tuple_count, ⟨ob, eo, hc2⟩, fun b e => by cases e; exact ⟨ob, eo, dn⟩, ?_⟩
  have hA := ha.run cpos pins s1 σ H1 _ I1 q1
  rw [hs] at hA ⊢
  have na : (false || (backTo cpos (starEach es X.env)).any (·.1)) = false := hplain
  refine Calls.callWith_builtin na (Calls.evalArgs_plain ?_)
  exact thn hA fun us s2 ⟨vs, H2, I2, r2, q2⟩ => hm pins s2 σ H2 _ vs _ us Q I2 r1 r2 q2
theorem m_get (hu : X.A.units + 1 < cLine) : MtR X "dict.get" (rBm X.K cl Wx s0 .dct .get) := by
  intro pins s σ H x xs v us Q I rx rs h
  obtain ⟨r, S, w, ws, rel, q, qs, hk, p⟩ := h
  obtain ⟨n, a, ys, vs, rfl, rfl, e, g, a1, hs⟩ := kd_dct rel q hk
  rcases ws with _ | ⟨w1, _ | ⟨w2, _ | ⟨w3, ws⟩⟩⟩
  · simp only [bmW, g] at p; exact False.elim p
  · simp only [bmW, g] at p; exact False.elim p
  · cases qs with
    | cons h1 h2 => cases h2 with
      | cons h2 h3 => cases h3 with
        | nil =>
          simp only [bmW, g] at p
          split at p
          · rename_i k gk
            have ek := h1.key gk
            subst ek
            obtain ⟨u1, u2, rfl, r1, r2⟩ := rs.two
            cases (show v = Value.ref a from rx)
            refine d_get2 hu I (DGet.k a1) r1 r2 fun w' s' I' rw' => ⟨_, H, I', rw', ?_⟩
            obtain ⟨k1, k2⟩ := rkv_val hs k
            cases gv : valW ys k with
            | none =>
              rw [k2 gv]
              rw [gv] at p
              exact p.val rel h2
            | some y =>
              obtain ⟨u, e3, ru⟩ := k1 y gv
              rw [e3]
              rw [gv] at p
              exact p.val rel ru
          · exact False.elim p
  · simp only [bmW, g] at p; exact False.elim p
theorem m_popD : MtR X "dict.pop" (rBm X.K cl Wx s0 .dct .pop) := by
  intro pins s σ H x xs v us Q I rx rs h
  obtain ⟨r, S, w, ws, rel, q, qs, hk, p⟩ := h
  obtain ⟨n, a, ys, vs, rfl, rfl, e, g, a1, hs⟩ := kd_dct rel q hk
  rcases ws with _ | ⟨w1, _ | ⟨w2, ws⟩⟩
  · simp only [bmW, g] at p; exact False.elim p
  · cases qs with
    | cons h1 h2 => cases h2 with
      | nil =>
        simp only [bmW, g, Bool.false_eq_true, if_false] at p
        split at p
        · rename_i k gk
          have ek := h1.key gk
          subst ek
          split at p
          · rename_i y gy
            obtain ⟨u, e3, ru⟩ := (rkv_val hs k).1 y gy
            obtain ⟨u1, rfl, r1⟩ := rs.one
            cases (show v = Value.ref a from rx)
            exact d_pop I a1 r1 e3 (.inl rfl) fun w' s' I' rw' => ⟨u, _, I', rw', put_dct rel e a1 p ru (rkv_drop hs k)⟩
          · exact False.elim p
        · exact False.elim p
  · simp only [bmW, g] at p; exact False.elim p
theorem place_ok {x : V} : ∀ {xs : List V} {j : Nat}, placeOf x xs = some j → ∃ z, xs[j]? = some z ∧ eqV z x = true ∧ ∀ m z', m < j → xs[m]? = some z' → eqV z' x = false
  | y :: r, j, h => by
    unfold placeOf at h
    split at h
    · rename_i e
      cases h
      exact ⟨y, rfl, e, fun m z' hm => absurd hm (Nat.not_lt_zero m)⟩
    · rename_i e
      cases q : placeOf x r with
      | none => rw [q] at h; cases h
      | some i =>
        rw [q] at h
        have ej : i + 1 = j := by simpa using h
        subst ej
        obtain ⟨z, h1, h2, h3⟩ := place_ok q
        refine ⟨z, by simpa using h1, h2, fun m z' hm hz => ?_⟩
        cases m with
        | zero =>
          have : y = z' := by simpa using hz
          subst this
          exact Bool.eq_false_iff.mpr e
        | succ m => exact h3 m z' (by omega) (by simpa using hz)
theorem m_index : MtR X "list.index" (rBm X.K cl Wx s0 .lst .index) := by
  intro pins s σ H x xs v us Q I rx rs h
  obtain ⟨r, S, w, ws, rel, q, qs, hk, p⟩ := h
  obtain ⟨n, a, ys, vs, rfl, rfl, e, g, a1, hs⟩ := kd_lst rel q hk
  rcases ws with _ | ⟨w1, _ | ⟨w2, ws⟩⟩
  · simp only [bmW, g] at p; exact False.elim p
  · cases qs with
    | cons h1 h2 => cases h2 with
      | nil =>
        simp only [bmW, g] at p
        split at p
        · rename_i hc
          rw [Bool.and_eq_true] at hc
          obtain ⟨ex, fx⟩ := h1.scal hc.1
          obtain ⟨ey, fy⟩ := hs.scal hc.2
          split at p
          · rename_i j gj
            obtain ⟨z, z1, z2, z3⟩ := place_ok gj
            rw [← ey] at z1 z3
            rw [← ex] at z2 z3
            exact mt_index pins s σ H _ _ v us Q I rx rs ⟨a, vs, _, j, z, rfl, rfl, SqL.of a1, fx, fy, z1, z2, z3, p.val rel (.int _)⟩
          · exact False.elim p
        · exact False.elim p
  · simp only [bmW, g] at p; exact False.elim p
/-- one dict takes another's entries -/
theorem d_upd {pins : List (Addr × Obj)} {σ : L2.St} {H : Hp} {s : Shared} {a b : Addr} {kvs more : List (Key × V)} {A : Around} {E : Value → Shared → Prop} {Q : Value → Shared → Prop} (I : Inv X pins σ H s) (e : H a = some (.dK kvs)) (e2 : H b = some (.dK more)) (hne : a ≠ b) (hl : kvs.length + more.length ≤ sizeLine)
    (h : ∀ s', Inv X pins σ (upd H a (.dK (mergeK kvs more))) s' → Q .none s') : wpAny (model X.prog X.w) A (call (.builtin "dict.update") [.ref a, .ref b]) Q E s := by
  obtain ⟨z, hd, vs, rel, dd⟩ := dk_of I.hok e
  obtain ⟨z2, hd2, vs2, rel2, dd2⟩ := dk_of I.hok e2
  refine call_meetsIn PySem.F.slot_dict_update dd.typeIs PySem.F.entry_dict_update (PySem.F.args_dict_update_2 _ _) (meets_dict_update (mixKind X.prog X.w) a b hne hd2)
    ⟨vs, vs2, dd, dd2, by rw [← rel.length, ← rel2.length]; exact hl, fun h' n1 n2 sb => h _ ?_⟩
  have he : ∃ q, h'.get? a = some q := let ⟨q, _, _, hq, _⟩ := n1; ⟨q, hq⟩
  have hz : (mergeK kvs more).length ≤ sizeLine := Nat.le_trans (length_mergeK more kvs) hl
  exact d_write (t' := s.toks) I (by rw [e]; exact True.intro) sb he (dk_new hz hd (rel2.merge rel) n1)
theorem m_update : MtR X "dict.update" (rBm X.K cl Wx s0 .dct .update) := by
  intro pins s σ H x xs v us Q I rx rs h
  obtain ⟨r, S, w, ws, rel, q, qs, hk, p⟩ := h
  obtain ⟨n, a, ys, vs, rfl, rfl, e, g, a1, hs⟩ := kd_dct rel q hk
  rcases ws with _ | ⟨w1, _ | ⟨w2, ws⟩⟩
  · simp only [bmW, g] at p; exact False.elim p
  · cases qs with
    | cons h1 h2 => cases h2 with
      | nil =>
        cases h1 with
        | @ref k b e2 =>
          simp only [bmW, g, Bool.false_eq_true, if_false] at p
          split at p
          · exact False.elim p
          · rename_i hnk
            split at p
            · rename_i more g2
              split at p
              · rename_i hl
                obtain ⟨us2, a2, hs2⟩ := rel.dct e2 g2
                rw [Paired.len hs, Paired.len hs2] at hl
                obtain ⟨u1, rfl, r1⟩ := rs.one
                cases (show v = Value.ref a from rx)
                cases (show u1 = Value.ref b from r1)
                exact d_upd I a1 a2 (fun z => hnk (rel.inj n k a e (by rw [z]; exact e2))) (lim_le hl) fun s' I' => ⟨.non, _, I', rfl, put_dct rel e a1 p .non (rkv_merge hs2 hs)⟩
              · exact False.elim p
            · exact False.elim p
        | _ => simp only [bmW, g, Bool.false_eq_true, if_false] at p; exact False.elim p
  · cases w1 <;> (simp only [bmW, g] at p; exact False.elim p)
theorem m_split : MtR X "str.split" (rBm X.K cl Wx s0 .str .split) := by
  intro pins s σ H x xs v us Q I rx rs h
  obtain ⟨r, S, w, ws, rel, q, qs, hk, p⟩ := h
  obtain ⟨z, rfl, rfl⟩ := kd_str q hk
  rcases ws with _ | ⟨w1, _ | ⟨w2, ws⟩⟩
  · exact False.elim p
  · cases qs with
    | cons h1 h2 => cases h2 with
      | nil =>
        cases h1 with
        | str y =>
          simp only [bmW] at p
          split at p
          · rename_i hl
            refine mt_split pins s σ H _ _ v us Q I rx rs ⟨z, y, rfl, rfl, beq_eq_false_iff_ne.mpr hl.2, by rw [sizeLine_eq]; omega, ?_⟩
            exact p.mk rel (.lst (rvs_strs _))
          · exact False.elim p
        | _ => exact False.elim p
  · cases w1 <;> exact False.elim p
theorem m_join : MtR X "str.join" (rBm X.K cl Wx s0 .str .join) := by
  intro pins s σ H x xs v us Q I rx rs h
  obtain ⟨r, S, w, ws, rel, q, qs, hk, p⟩ := h
  obtain ⟨z, rfl, rfl⟩ := kd_str q hk
  rcases ws with _ | ⟨w1, _ | ⟨w2, ws⟩⟩
  · exact False.elim p
  · cases qs with
    | cons h1 h2 => cases h2 with
      | nil =>
        simp only [bmW] at p
        split at p
        · rename_i ys g
          split at p
          · rename_i ss gs
            split at p
            · rename_i hl
              obtain ⟨a, vs, e1, e2, hs⟩ := rel.lstOf h1 g
              subst e1
              have ev := hs.strs gs
              subst ev
              refine mt_join pins s σ H _ _ v us Q I rx rs ⟨z, a, ss, rfl, rfl, .inl e2, ?_, p.val rel (.str _)⟩
              rw [Nat.mul_comm]; omega
            · exact False.elim p
          · exact False.elim p
        · exact False.elim p
  · exact False.elim p
end
section
variable {F : Fx} {N : List Str} {c : Call} {L : Nat}
theorem snd_bm {m : Bm} {o as : E} (ho : Snd F N c L o) (ha : Snd F N c L as) : Snd F N c L (.bm m o as) := by
  refine .plain (fun X Wx x ok tk h => ?_) (fun X x h => ?_) rfl rfl
  · obtain ⟨y, p, es, q, e, h1, h2, h0, h4, h5⟩ := cMeth_inv h
    cases e
    obtain ⟨hA, hn⟩ := band h0
    obtain ⟨hp, hs⟩ := ha.pa X Wx es ok tk hA h5
    have hO := ho.pe X Wx y ok tk h4
    have hb : ∀ {f : Str}, attributeBase y f X.env (PySem.eval y X.env) = PySem.eval y X.env := sup_of h1
    have hl : (p.endLine == q.line) = true := beq_iff_eq.mpr h2
    have hu : X.A.units + 1 < cLine := by have := hu65 ok; omega
    refine ⟨fun pins s σ H Q I ⟨r, w, S, rel, sg, pp⟩ => ?_⟩
    simp only [eval] at pp
    have conv : ∀ k : Kd, (∀ v S1, eval c o w S = .ok v S1 → kd v S1 = some k) → ∀ {TV : V → Hp → Prop}, (∀ r1 S1 H1 x u, Rel X.K F.cl r1 S1 H1 → RV X.K r1 H1 x u → kd x S1 = some k → TV u H1) →
        (tM X.K F.cl Wx (eval c o) σ H fun u H1 => TV u H1 ∧ tMA X.K F.cl Wx (eval c as) σ H1 fun us H2 => rBm X.K F.cl Wx σ k m u us H2 Q) := fun k hk TV hT => by
      refine ⟨r, w, S, rel, sg, ?_⟩
      cases ev : eval c o w S with
      | no => rw [ev] at pp; exact False.elim pp
      | ex y S1 => rw [ev] at pp; exact pp
      | ok v S1 =>
        have hk1 := hk v S1 ev
        rw [ev] at pp
        have pp : Post X.K F.cl Wx σ r H Q ((eval c as w S1).bind fun t S => if kd v S = some k then bmW m v (tupOf t) S else .no) := by
          simp only [R.bind, hk1] at pp
          split at pp
          · exact pp
          · exact False.elim pp
        intro r1 H1 u g1 q1 v1
        refine ⟨hT r1 S1 H1 v u q1 v1 hk1, r1, w, S1, q1, sg.mono g1, Post.argsA hA (Post.mono g1 pp) fun ws S2 r2 H2 us el g2 q2 v2 p2 => ?_⟩
        split at p2
        · rename_i hk2
          exact ⟨r2, S2, v, ws, q2, v1.mono g2, v2, hk2, p2⟩
        · exact False.elim p2
    have tl : ∀ r1 S1 H1 x u, Rel X.K F.cl r1 S1 H1 → RV X.K r1 H1 x u → kd x S1 = some .lst → tyV X.K "list" u H1 := fun r1 S1 H1 x u q1 v1 hk => by
      obtain ⟨n, a, xs, vs, rfl, rfl, e, g, a1, hs⟩ := kd_lst q1 v1 hk
      exact .inl ⟨rfl, vs, SqL.of a1⟩
    have td : ∀ r1 S1 H1 x u, Rel X.K F.cl r1 S1 H1 → RV X.K r1 H1 x u → kd x S1 = some .dct → tyV X.K "dict" u H1 := fun r1 S1 H1 x u q1 v1 hk => by
      obtain ⟨n, a, xs, vs, rfl, rfl, e, g, a1, hs⟩ := kd_dct q1 v1 hk
      exact .inr (.inr (.inl ⟨rfl, .inl ⟨vs, a1⟩⟩))
    have ts : ∀ r1 S1 H1 x u, Rel X.K F.cl r1 S1 H1 → RV X.K r1 H1 x u → kd x S1 = some .str → tyV X.K "str" u H1 := fun r1 S1 H1 x u q1 v1 hk => by
      obtain ⟨z, rfl, rfl⟩ := kd_str v1 hk
      rfl
    have tt : ∀ r1 S1 H1 x u, Rel X.K F.cl r1 S1 H1 → RV X.K r1 H1 x u → kd x S1 = some .tup → ∃ a vs, u = .ref a ∧ TupAt H1 a vs := fun r1 S1 H1 x u q1 v1 hk => by
      obtain ⟨xs, a, vs, rfl, rfl, e, hs⟩ := kd_tup v1 hk
      exact ⟨a, vs, rfl, e⟩
    cases ev : eval c o w S with
    | no => rw [ev] at pp; exact False.elim pp
    | ex ye S1 =>
      -- the receiver raises
      have ex1 : ∀ {P : VK}, tM X.K F.cl Wx (eval c o) σ H P := ⟨r, w, S, rel, sg, by rw [ev] at pp ⊢; exact pp⟩
      rw [PySem.arm_eval_Call, hb]
      exact wpAny_bind (thn (hO.run pins s σ H (fun _ _ => False) I ex1) fun u s1 ⟨_, _, _, _, z⟩ => z.elim)
    | ok v S1 =>
      have pp' := pp
      rw [ev] at pp'
      cases hk : kd v S1 with
      | none =>
        simp only [R.bind, hk] at pp'
        exact False.elim pp'
      | some k =>
        have hk' : ∀ v' S1', eval c o w S = .ok v' S1' → kd v' S1' = some k := fun v' S1' e => by
          rw [ev] at e; cases e; exact hk
        have hf : fitK m k = true := by
          simp only [R.bind, hk] at pp'
          split at pp'
          · assumption
          · exact False.elim pp'
        cases es with
        | nil =>
          have e0 := args_nil hA h5
          subst e0
          have hm0 : m = .clear := by cases m <;> first | rfl | cases hn
          subst hm0
          cases k with
          | lst =>
            obtain ⟨r', w', S', rel', sg', p'⟩ := conv .lst hk' tl
            refine (pe_bm0 (X := X) PySem.F.plainAttrs_list PySem.F.slot_list_clear PySem.F.type_list_clear (m_clear (cl := F.cl) (Wx := Wx) (s0 := σ)) hO hb hl).run pins s σ H Q I ⟨r', w', S', rel', sg', ?_⟩
            cases ev2 : eval c o w' S' with
            | no => rw [ev2] at p'; exact p'
            | ex y S1 => rw [ev2] at p'; exact p'
            | ok v S1 =>
              rw [ev2] at p'
              intro r1 H1 u g1 q1 v1
              obtain ⟨t1, r2, w2, S2, q2, sg2, p2⟩ := p' r1 H1 u g1 q1 v1
              exact ⟨t1, p2 r2 H1 [] .refl q2 .nil⟩
          | dct => cases hf
          | str => cases hf
          | tup => cases hf
        | cons e es =>
          have hs2 := hs
          rw [List.all_cons, Bool.and_eq_true] at hs
          have hn30 : (e :: es).length < 30 := by
            have hn0 := List.contains_iff_mem.mp hn
            cases m <;> simp only [bmN, List.mem_singleton] at hn0 <;> omega
          cases k with
          | lst =>
            cases m with
            | append => exact (pe_bm (X := X) PySem.F.plainAttrs_list PySem.F.slot_list_append PySem.F.type_list_append (m_append (cl := F.cl) (Wx := Wx) (s0 := σ)) hO hp (hbase := hb) (hfew := form_of hs2 hn30) (hline := hl) (hs := star1 hs.1) (hplain := stars hs.2)).run pins s σ H Q I (conv .lst hk' tl)
            | extend => exact (pe_bm (X := X) PySem.F.plainAttrs_list PySem.F.slot_list_extend PySem.F.type_list_extend (m_extend (cl := F.cl) (Wx := Wx) (s0 := σ)) hO hp (hbase := hb) (hfew := form_of hs2 hn30) (hline := hl) (hs := star1 hs.1) (hplain := stars hs.2)).run pins s σ H Q I (conv .lst hk' tl)
            | pop => exact (pe_bm (X := X) PySem.F.plainAttrs_list PySem.F.slot_list_pop PySem.F.type_list_pop (m_popL (cl := F.cl) (Wx := Wx) (s0 := σ)) hO hp (hbase := hb) (hfew := form_of hs2 hn30) (hline := hl) (hs := star1 hs.1) (hplain := stars hs.2)).run pins s σ H Q I (conv .lst hk' tl)
            | insert => exact (pe_bm (X := X) PySem.F.plainAttrs_list PySem.F.slot_list_insert PySem.F.type_list_insert (m_insert (cl := F.cl) (Wx := Wx) (s0 := σ)) hO hp (hbase := hb) (hfew := form_of hs2 hn30) (hline := hl) (hs := star1 hs.1) (hplain := stars hs.2)).run pins s σ H Q I (conv .lst hk' tl)
            | remove => exact (pe_bm (X := X) PySem.F.plainAttrs_list PySem.F.slot_list_remove PySem.F.type_list_remove (m_remove (cl := F.cl) (Wx := Wx) (s0 := σ)) hO hp (hbase := hb) (hfew := form_of hs2 hn30) (hline := hl) (hs := star1 hs.1) (hplain := stars hs.2)).run pins s σ H Q I (conv .lst hk' tl)
            | count => exact (pe_bm (X := X) PySem.F.plainAttrs_list PySem.F.slot_list_count PySem.F.type_list_count (m_count (cl := F.cl) (Wx := Wx) (s0 := σ)) hO hp (hbase := hb) (hfew := form_of hs2 hn30) (hline := hl) (hs := star1 hs.1) (hplain := stars hs.2)).run pins s σ H Q I (conv .lst hk' tl)
            | index => exact (pe_bm (X := X) PySem.F.plainAttrs_list PySem.F.slot_list_index PySem.F.type_list_index (m_index (cl := F.cl) (Wx := Wx) (s0 := σ)) hO hp (hbase := hb) (hfew := form_of hs2 hn30) (hline := hl) (hs := star1 hs.1) (hplain := stars hs.2)).run pins s σ H Q I (conv .lst hk' tl)
            | clear => cases hn
            | _ => cases hf
          | dct =>
            cases m with
            | get => exact (pe_bm (X := X) PySem.F.plainAttrs_dict PySem.F.slot_dict_get PySem.F.type_dict_get (m_get (cl := F.cl) (Wx := Wx) (s0 := σ) hu) hO hp (hbase := hb) (hfew := form_of hs2 hn30) (hline := hl) (hs := star1 hs.1) (hplain := stars hs.2)).run pins s σ H Q I (conv .dct hk' td)
            | pop => exact (pe_bm (X := X) PySem.F.plainAttrs_dict PySem.F.slot_dict_pop PySem.F.type_dict_pop (m_popD (cl := F.cl) (Wx := Wx) (s0 := σ)) hO hp (hbase := hb) (hfew := form_of hs2 hn30) (hline := hl) (hs := star1 hs.1) (hplain := stars hs.2)).run pins s σ H Q I (conv .dct hk' td)
            | update => exact (pe_bm (X := X) PySem.F.plainAttrs_dict PySem.F.slot_dict_update PySem.F.type_dict_update (m_update (cl := F.cl) (Wx := Wx) (s0 := σ)) hO hp (hbase := hb) (hfew := form_of hs2 hn30) (hline := hl) (hs := star1 hs.1) (hplain := stars hs.2)).run pins s σ H Q I (conv .dct hk' td)
            | _ => cases hf
          | tup =>
            cases m with
            | count => exact (pe_bmT (X := X) (m_countT (cl := F.cl) (Wx := Wx) (s0 := σ)) hO hp hb (form_of hs2 hn30) hl (star1 hs.1) (stars hs.2)).run pins s σ H Q I (conv .tup hk' tt)
            | _ => cases hf
          | str =>
            cases m with
            | split => exact (pe_bm (X := X) PySem.F.plainAttrs_str PySem.F.slot_str_split PySem.F.type_str_split (m_split (cl := F.cl) (Wx := Wx) (s0 := σ)) hO hp (hbase := hb) (hfew := form_of hs2 hn30) (hline := hl) (hs := star1 hs.1) (hplain := stars hs.2)).run pins s σ H Q I (conv .str hk' ts)
            | join => exact (pe_bm (X := X) PySem.F.plainAttrs_str PySem.F.slot_str_join PySem.F.type_str_join (m_join (cl := F.cl) (Wx := Wx) (s0 := σ)) hO hp (hbase := hb) (hfew := form_of hs2 hn30) (hline := hl) (hs := star1 hs.1) (hplain := stars hs.2)).run pins s σ H Q I (conv .str hk' ts)
            | _ => cases hf
  · obtain ⟨y, p, es, q, e, h1, h2, h0, h4, h5⟩ := cMeth_inv h
    cases e
    intro _; rfl
end
end D
end

section
/-! Every expression. -/
namespace D
open PySem L2
theorem snd_all {F : Fx} {N : List Str} {c : Call} {L : Nat} : ∀ e : E, Snd F N c L e
  | .var i => snd_var i
  | .int i => snd_int i
  | .bl b => snd_bl b
  | .non => snd_non
  | .str n => snd_str n
  | .gi n i => snd_gi n i
  | .gs n s => snd_gs n s
  | .bin _ a b => snd_bin (snd_all a) (snd_all b)
  | .neg a => snd_neg (snd_all a)
  | .nt a => snd_nt (snd_all a)
  | .and a b => snd_and (snd_all a) (snd_all b)
  | .or a b => snd_or (snd_all a) (snd_all b)
  | .cmp _ a b => snd_cmp (snd_all a) (snd_all b)
  | .chain _ _ a b d => snd_chain (snd_all a) (snd_all b) (snd_all d)
  | .ife t a b => snd_ife (snd_all t) (snd_all a) (snd_all b)
  | .call _ as => snd_call (snd_all as)
  | .new _ as => snd_new (snd_all as)
  | .meth o _ as => snd_meth (snd_all o) (snd_all as)
  | .bi _ as => snd_bi (snd_all as)
  | .bm _ o as => snd_bm (snd_all o) (snd_all as)
  | .attr o _ => snd_attr (snd_all o)
  | .ix a i => snd_ix (snd_all a) (snd_all i)
  | .sl a lo hi => snd_sl (snd_all a) (snd_all lo) (snd_all hi)
  | .rev a => snd_rev (snd_all a)
  | .tup es => snd_tup (snd_all es)
  | .lst es => snd_lst (snd_all es)
  | .dct kvs => snd_dct (snd_all kvs)
  | .lc _ _ it elt cnd => snd_lc (snd_all it) (snd_all elt) (snd_all cnd)
  | .isi a _ => snd_isi (snd_all a)
  | .rng1 a => snd_rng1 (snd_all a)
  | .rng2 a b => snd_rng2 (snd_all a) (snd_all b)
  | .enm _ => snd_enm
  | .nil => snd_nil
  | .cons a r => snd_cons (snd_all a) (snd_all r)
  | .kv k v r => snd_kv (snd_all k) (snd_all v) (snd_all r)
  | .no => snd_no
end D
end

section
set_option maxHeartbeats 1000000
/-! Statements: the checks, the readings, the plain ones. -/
namespace D
open PySem PySem.Spec PyProof.Rows L2

abbrev CkS := List Stmt → Bool
def cel (sc : Scope) (x : Str) : Bool := match sc.names.lookup x with
  | some .cell => true
  | _ => false
theorem cel_of {sc : Scope} {x : Str} (h : cel sc x = true) : sc.names.lookup x = some .cell := by
  unfold cel at h
  split at h
  · assumption
  · cases h
/-- what a comprehension's value does with the place that it is stored at -/
def swN (sc : Scope) (y : Str) (py : Pos) : Expr → Bool
  | .ListComp _ _ scope pos => cel sc y || (lcl sc y && (py.line == pos.line) && !(scope.names.any fun (n, k) => n == y && (k == .local || k == .cell)))
  | e => noComp e
def sSet (N : List Str) (sc : Scope) (x : Nat) (f : Ck) : CkS
  | [.Assign [.Name y p] e _] => decide (N[x]? = some y) && locB sc y && swN sc y p e && f [e]
  | _ => false
def sEx (f : Ck) : CkS
  | [.Expr e _] => noComp e && f [e]
  | _ => false
def sSetA (n : Str) (k : Bool) (f g : Ck) : CkS
  | [.Assign [.Attribute o y _] e _] => decide (n = y) && k && f [o] && g [e]
  | _ => false
def sSetI (f g h : Ck) : CkS
  | [.Assign [.Subscript o i _] e _] => plainE i && f [o] && g [i] && h [e]
  | _ => false
def notTup : Expr → Bool
  | .Tuple .. => false
  | _ => true
def sSetT (N : List Str) (sc : Scope) (xs : List Nat) (f : Ck) : CkS
  | [.Assign [.Tuple ts _ _] e _] => tgt false N sc xs ts && notTup e && f [e]
  | _ => false
def isName : Expr → Bool
  | .Name _ _ => true
  | _ => false
def twoCel (sc : Scope) : List Expr → Bool
  | [.Name x _, .Name y _] => cel sc x || cel sc y
  | _ => false
def sPar (N : List Str) (sc : Scope) (xs : List Nat) (f : Ck) : CkS
  | [.Assign [.Tuple ts _ _] (.Tuple vs _ _) _] => (twoCel sc ts && tgt false N sc xs ts && f vs) || (tgt true N sc xs ts && decide (xs.Nodup) && decide (ts.length = vs.length) && f vs && (vs.all (foldedForSure 8) || (!(vs.all (constantsAlone 8)) && (match ts with
    | [.Name _ p, .Name _ q] => q.line == p.line
    | [.Name _ p, .Name _ q, .Name _ r] => q.line == p.line && r.line == p.line
    | _ => false))))
  | _ => false
def sIte (f : Ck) (g k : CkS) : CkS
  | [.If e a b _] => f [e] && g a && k b
  | _ => false
def sFor (N : List Str) (sc : Scope) (xs : List Nat) (one : Bool) (f : Ck) (g : CkS) : CkS
  | [.For t i b [] _] => noSet i && tgt1 false N sc xs one t && f [i] && g b
  | _ => false
def sForE (F : Fx) (N : List Str) (sc : Scope) (i x : Nat) (f : Ck) (g : CkS) : CkS
  | [.For (.Tuple ts _ _) (.Call (.Name n _) [e] [] _) b [] _] => freeB F sc n "enumerate" && tgt false N sc [i, x] ts && plainE e && f [e] && g b
  | _ => false
def sWhl (f : Ck) (g : CkS) : CkS
  | [.While e b [] _] => f [e] && g b
  | _ => false
def sRet (f : Ck) : CkS
  | [.Return (some e) _] => f [e]
  | _ => false
def sRetN : CkS
  | [.Return none _] => true
  | _ => false
def sPass : CkS
  | [.Pass _] => true
  | _ => false
def sRse (F : Fx) (sc : Scope) (c : Nm) : CkS
  | [.Raise (some (.Call (.Name x _) [.Constant (.str _) _ _] [] _)) none _] => decide (x = c.str) && glo sc x && noDebug x && F.exc.contains c
  | _ => false
/-- a suite that only leaves or passes -/
def suB : S → Bool
  | .cons .retN .nil => true
  | .cons .pass .nil => true
  | _ => false
def sTri (F : Fx) (sc : Scope) (c : Nm) (g k : CkS) : CkS
  | [.Try b [.ExceptHandler (some (.Name x _)) none s _] [] [] _] => decide (x = c.str) && glo sc x && noDebug x && decide (c = .n_DrainError) && F.exc.contains c && g b && k s
  | _ => false
def isOne : S → Bool
  | .nil => false
  | .cons _ _ => false
  | _ => true
def chkS (F : Fx) (N : List Str) (sc : Scope) : S → CkS
  | .nil => fun ss => ss.isEmpty
  | .cons s r => fun ss => (match ss with
    | t :: ts => isOne s && chkS F N sc s [t] && chkS F N sc r ts
    | [] => false)
  | .pass => sPass
  | .ex e => sEx (chk F N e .e sc)
  | .set x e => sSet N sc x (chk F N e .e sc)
  | .setA o f e => sSetA f.str (F.fields.contains f) (chk F N o .e sc) (chk F N e .e sc)
  | .setI o i e => sSetI (chk F N o .e sc) (chk F N i .e sc) (chk F N e .e sc)
  | .setT xs e => sSetT N sc xs (chk F N e .e sc)
  | .par xs es => fun ss => isArgs es && decide (argN es ≤ 1000) && sPar N sc xs (chk F N es .a sc) ss
  | .ite t a b => sIte (chk F N t .e sc) (chkS F N sc a) (chkS F N sc b)
  | .for_ xs one it b => sFor N sc xs one (chk F N it .i sc) (chkS F N sc b)
  | .forE i x a b => sForE F N sc i x (chk F N a .e sc) (chkS F N sc b)
  | .whl t b => sWhl (chk F N t .e sc) (chkS F N sc b)
  | .ret e => sRet (chk F N e .e sc)
  | .retN => sRetN
  | .rse c => sRse F sc c
  | .rseA _ _ => fun _ => false
  | .tri b cs c none s => fun ss => suB s && cs.all F.exc.contains && sTri F sc c (chkS F N sc b) (chkS F N sc s) ss
  | .tri _ _ _ (some _) _ => fun _ => false

structure OkS (F : Fx) (N : List Str) (c : Call) (L : Nat) (X : Cx) : Prop where
  ok : Ok F N c L X
  fn : ∀ x, X.fn x = true
  pass : PassesOwn (model X.prog X.w) X.A X.env X.xe
  stk : X.stack = X.env :: X.outer
  frm : X.env.frame = some X.env.locals
  knd : X.env.scope.kind = .function
section
variable (K : PySem.W.Frag) (cl : List Nm) (Wx : WX)
def tMS (m : Env → Sto → RS) : TS := fun D σ H => ∃ r w S, Rel K cl r S H ∧ RSig K r H w σ ∧ PostS K cl Wx r H D (m w S)
end
structure SndS (F : Fx) (N : List Str) (c : Call) (L : Nat) (s : S) : Prop where
  ps : ∀ (X : Cx) (Wx : WX) (t : Stmt), OkS F N c L X → Takes X Wx → isOne s = true → chkS F N X.env.scope s [t] = true → PS X t (tMS X.K F.cl Wx (exec c s))
  pss : ∀ (X : Cx) (Wx : WX) (ss : List Stmt), OkS F N c L X → Takes X Wx → chkS F N X.env.scope s ss = true → PSs X ss (tMS X.K F.cl Wx (exec c s))
section
variable {X : Cx}
theorem PS.imp {x : Stmt} {t t' : TS} (h : PS X x t) (i : ∀ D σ H, t' D σ H → t D σ H) : PS X x t' := ⟨fun pins s σ H D I q => h.run pins s σ H D I (i D σ H q)⟩
theorem PSs.imp {x : List Stmt} {t t' : TS} (h : PSs X x t) (i : ∀ D σ H, t' D σ H → t D σ H) : PSs X x t' := ⟨fun pins s σ H D I q => h.run pins s σ H D I (i D σ H q)⟩
end
section
variable {F : Fx} {N : List Str} {c : Call} {L : Nat}
theorem sndS_nil : SndS F N c L .nil := ⟨fun _ _ _ _ _ z => (nomatch z), fun X Wx ss ok tk h => by
  cases ss with
  | cons _ _ => cases h
  | nil => exact PSs.imp pss_nil fun D σ H ⟨r, w, S, rel, sg, p⟩ => p r H σ .refl rel sg⟩
theorem sndS_cons {s r : S} (hs : SndS F N c L s) (hr : SndS F N c L r) : SndS F N c L (.cons s r) := ⟨fun _ _ _ _ _ z => (nomatch z), fun X Wx ss ok tk h => by
  cases ss with
  | nil => cases h
  | cons t ts =>
    obtain ⟨h1, h2⟩ := band h
    obtain ⟨h0, h1⟩ := band h1
    have p1 := hs.ps X Wx t ok tk h0 h1
    have p2 := hr.pss X Wx ts ok tk h2
    refine PSs.imp (pss_cons p1 p2) fun D σ H ⟨r0, w, S, rel, sg, p⟩ => ⟨r0, w, S, rel, sg, ?_⟩
    simp only [exec] at p
    cases e : exec c s w S with
    | nx w1 S1 => rw [e] at p; exact fun r' H' s' g q' sg' => ⟨r', w1, S1, q', sg', PostS.mono g p⟩
    | rt v S1 => rw [e] at p; exact p
    | ex x w1 S1 => rw [e] at p; exact p
    | no => rw [e] at p; exact False.elim p⟩
/-- a statement that is one -/
theorem SndS.one {s : S} (hl : ∀ {sc : Scope} {ss : List Stmt}, chkS F N sc s ss = true → ss.length = 1) (h : ∀ (X : Cx) (Wx : WX) (t : Stmt), OkS F N c L X → Takes X Wx → chkS F N X.env.scope s [t] = true → PS X t (tMS X.K F.cl Wx (exec c s))) : SndS F N c L s :=
  ⟨fun X Wx t ok tk _ q => h X Wx t ok tk q, fun X Wx ss ok tk q => by
    have l := hl q
    match ss, l with
    | [t], _ => exact pss_one (h X Wx t ok tk q)⟩
theorem PostS.go {K : PySem.W.Frag} {cl : List Nm} {Wx : WX} {r : Rho} {H : Hp} {D : Ends} {w : Env} {σ : L2.St} {S : Sto} (p : PostS K cl Wx r H D (.nx w S)) (rel : Rel K cl r S H) (sg : RSig K r H w σ) : D.nx σ H := p r H σ .refl rel sg
theorem sndS_pass : SndS F N c L .pass := .one (fun {sc ss} h => by
  unfold chkS sPass at h
  split at h
  · rfl
  · cases h) fun X Wx t ok tk h => by
    unfold chkS sPass at h
    split at h
    · rename_i e; cases e
      exact PS.imp ps_pass fun D σ H ⟨r, w, S, rel, sg, p⟩ => p.go rel sg
    · cases h
theorem sndS_retN : SndS F N c L .retN := .one (fun {sc ss} h => by
  unfold chkS sRetN at h
  split at h
  · rfl
  · cases h) fun X Wx t ok tk h => by
    unfold chkS sRetN at h
    split at h
    · rename_i e; cases e
      exact PS.imp ps_retN fun D σ H ⟨r, w, S, rel, sg, p⟩ => p r H .non .refl rel .non
    · cases h
theorem sndS_ret {e : E} : SndS F N c L (.ret e) := .one (fun {sc ss} h => by
  unfold chkS sRet at h
  split at h
  · rfl
  · cases h) fun X Wx t ok tk h => by
    unfold chkS sRet at h
    split at h
    · rename_i q; cases q
      refine PS.imp (ps_ret ((snd_all e).pe X Wx _ ok.ok tk h)) fun D σ H ⟨r, w, S, rel, sg, p⟩ => ⟨r, w, S, rel, sg, ?_⟩
      exact PostS.to sg p fun v S1 r1 H1 u g1 q1 v1 p1 => p1 r1 H1 u .refl q1 v1
    · cases h
theorem noswap {e : Expr} {t : Option Expr} {l : Nat} {env : PySem.Env} (h : noComp e = true) : swapsWith e t l env = pure false := by
  cases e <;> first | rfl | cases h
theorem noswapA {e o : Expr} {f : Str} {p : Pos} {l : Nat} {env : PySem.Env} : swapsWith e (some (.Attribute o f p)) l env = pure false := by
  cases e <;> rfl
theorem noswapI {e o i : Expr} {p : Pos} {l : Nat} {env : PySem.Env} : swapsWith e (some (.Subscript o i p)) l env = pure false := by
  cases e <;> rfl
theorem noswapT {e : Expr} {ts : List Expr} {k : Nat} {p : Pos} {l : Nat} {env : PySem.Env} : swapsWith e (some (.Tuple ts k p)) l env = pure false := by
  cases e <;> rfl
theorem sndS_ex {e : E} : SndS F N c L (.ex e) := .one (fun {sc ss} h => by
  unfold chkS sEx at h
  split at h
  · rfl
  · cases h) fun X Wx t ok tk h => by
    unfold chkS sEx at h
    split at h
    · rename_i q; cases q
      obtain ⟨h1, h2⟩ := band h
      refine PS.imp (ps_expr ((snd_all e).pe X Wx _ ok.ok tk h2) (noswap h1)) fun D σ H ⟨r, w, S, rel, sg, p⟩ => ⟨r, w, S, rel, sg, ?_⟩
      exact PostS.to sg p fun v S1 r1 H1 u g1 q1 v1 p1 => p1.go q1 (sg.mono g1)
    · cases h
theorem gName_ok {K : PySem.W.Frag} {cl : List Nm} {Wx : WX} {r : Rho} {H : Hp} {D : Ends} {w : Env} {σ : L2.St} {S : Sto} {i : Nat} {v : W} {u : V} (p : PostS K cl Wx r H D (.nx (w.set i (some v)) S)) (rel : Rel K cl r S H) (sg : RSig K r H w σ) (rv : RV K r H v u) : gName i u σ H D.nx :=
  p.go rel (sg.set i rv)
theorem sndS_set {x : Nat} {e : E} : SndS F N c L (.set x e) := .one (fun {sc ss} h => by
  unfold chkS sSet at h
  split at h
  · rfl
  · cases h) fun X Wx t ok tk h => by
    unfold chkS sSet at h
    split at h
    · rename_i y p v pos q; cases q
      obtain ⟨h1, h4⟩ := band h
      obtain ⟨h1, h3⟩ := band h1
      obtain ⟨h1, h2⟩ := band h1
      have h1 := dec_of h1
      have hN : X.N.Nodup := by rw [ok.ok.hN]; exact ok.ok.nd
      have hi : X.N[x]? = some y := by rw [ok.ok.hN]; exact h1
      have key : ∀ {te : TE} {D : Ends} {σ : L2.St} {H : Hp}, (∀ Q : VK, tM X.K F.cl Wx (eval c e) σ H Q → te σ H Q) → tMS X.K F.cl Wx (exec c (.set x e)) D σ H → tAsg te (gName x) D σ H := fun {te D σ H} hte ⟨r, w, S, rel, sg, p⟩ => by
        refine hte _ ⟨r, w, S, rel, sg, ?_⟩
        exact PostS.to sg p fun v S1 r1 H1 u g1 q1 v1 p1 => gName_ok p1 q1 (sg.mono g1) v1
      by_cases hc : noComp v = true
      · exact PS.imp (ps_set hN hi (loc_of h2) ((snd_all e).pe X Wx _ ok.ok tk h4) (noswap hc) (.inl (ok.fn y))) fun D σ H q => key (fun Q z => z) q
      · -- a comprehension, stored at once
        cases v with
        | ListComp ve vg vs vp =>
          have h3 : (cel X.env.scope y || (lcl X.env.scope y && (p.line == vp.line) && !(vs.names.any fun (n, k) => n == y && (k == .local || k == .cell)))) = true := h3
          by_cases hce : cel X.env.scope y = true
          · have sw : swapsWith (.ListComp ve vg vs vp) (some (.Name y p)) pos.line X.env = pure false := by
              have ek : X.env.kindOf y = some .cell := cel_of hce
              have e2 : (some NameKind.cell == some NameKind.local) = false := rfl
              simp only [swapsWith, ek, e2, Bool.and_false, Bool.false_and]
            exact PS.imp (ps_set hN hi (loc_of h2) ((snd_all e).pe X Wx _ ok.ok tk h4) sw (.inl (ok.fn y))) fun D σ H q => key (fun Q z => z) q
          rw [Bool.or_eq_true] at h3
          have h3 := h3.resolve_left hce
          obtain ⟨h5, h7⟩ := band h3
          obtain ⟨h5, h6⟩ := band h5
          have shape : ∃ xs one it elt cnd, e = .lc xs one it elt cnd := by
            cases e <;> first | exact ⟨_, _, _, _, _, rfl⟩ | cases h4 | (have z := (band h4).2; cases z) | (have z := (band h4).2; have z := (band z).2; cases z)
          obtain ⟨xs, one, it, elt, cnd, e1⟩ := shape
          subst e1
          obtain ⟨ee, tt, ii, ifs, scope, pp, ex, hi2, hb, ho, hg, ht, he, hf⟩ := lc_inv (snd_all it) (snd_all elt) (snd_all cnd) ok.ok tk h4
          cases ex
          have sw : swapsWith (.ListComp ve [⟨tt, ii, ifs, 0⟩] vs vp) (some (.Name y p)) pos.line X.env = pure true := sw_true ok.knd (lcl_of h5) h6 (bnot h7)
          have go : PS X (.Assign [.Name y p] (.ListComp ve [⟨tt, ii, ifs, 0⟩] vs vp) pos) (tAsg (tComp X.K F c Wx xs one it elt cnd) (gName x)) := by
            have := ps_setLc (spos := pos) ok.ok.calm hN hi (lcl_of h5) sw hi2 hb hg ht he hf
            rw [ho] at this
            exact this
          refine ⟨fun pins s σ H D I q => ?_⟩
          have q2 : tM X.K F.cl Wx (eval c (.lc xs one it elt cnd)) σ H fun u H1 => gName x u σ H1 D.nx := by
            obtain ⟨r, w, S, rel, sg, p⟩ := q
            refine ⟨r, w, S, rel, sg, ?_⟩
            exact PostS.to sg p fun v S1 r1 H1 u g1 q1 v1 p1 => gName_ok p1 q1 (sg.mono g1) v1
          rcases comp_run q2 with q3 | ⟨d, u, hd, mu, q3⟩
          · exact go.run pins s σ H D I q3
          · exact (ps_lock go).run pins s σ H D I ⟨d, u, hd, mu, fun od => q3 od⟩
        | _ => exact absurd (by first | rfl | exact h3) hc
    · cases h
end
end D
end

section
set_option maxHeartbeats 1000000
/-! Statements: stores, two ways, refusals. -/
namespace D
open PySem PySem.Spec PyProof.Rows L2

section
variable {F : Fx} {N : List Str} {c : Call} {L : Nat}
theorem rfs_put {K : PySem.W.Frag} {r : Rho} {H : Hp} {fs : List (Nm × W)} {us : List (Str × V)} (h : RFs K r H fs us) (f : Nm) {w : W} {v : V} (q : RV K r H w v) : RFs K r H (putf fs f w) (putF f.str v us) := by
  induction h with
  | nil => exact .cons ⟨rfl, q⟩ .nil
  | cons a t ih =>
    rename_i p u l1 l2
    obtain ⟨pn, pw⟩ := p
    obtain ⟨un, uv⟩ := u
    obtain ⟨h1, h2⟩ := a
    dsimp only at h1 h2
    subst h1
    unfold putf putF
    by_cases e : pn = f
    · subst e
      rw [if_pos rfl, if_pos rfl]
      exact .cons ⟨rfl, q⟩ t
    · rw [if_neg e, if_neg (fun z => e (Nm.inj z))]
      exact .cons ⟨rfl, h2⟩ ih
theorem sndS_setA {o e : E} {f : Nm} : SndS F N c L (.setA o f e) := .one (fun {sc ss} h => by
  unfold chkS sSetA at h
  split at h
  · rfl
  · cases h) fun X Wx t ok tk h => by
    unfold chkS sSetA at h
    split at h
    · rename_i oo y p v pos q; cases q
      obtain ⟨h1, h4⟩ := band h
      obtain ⟨h1, h3⟩ := band h1
      obtain ⟨h1, h2⟩ := band h1
      have h1 := dec_of h1
      subst h1
      refine PS.imp (ps_fld ((snd_all o).pe X Wx _ ok.ok tk h3) ((snd_all e).pe X Wx _ ok.ok tk h4) noswapA) fun D σ H ⟨r, w, S, rel, sg, p⟩ => ⟨r, w, S, rel, sg, ?_⟩
      refine PostS.to sg p fun v S1 r1 H1 u g1 q1 v1 p1 => ⟨r1, w, S1, q1, sg.mono g1, ?_⟩
      refine PostS.to (sg.mono g1) p1 fun a S2 r2 H2 b g2 q2 v2 p2 => ?_
      cases v2 with
      | ref e2 =>
        rename_i n ad
        simp only [setAW] at p2
        cases g : S2.get n with
        | none => rw [g] at p2; exact False.elim p2
        | some d =>
          rw [g] at p2
          cases d with
          | ins k fs =>
            dsimp only at p2
            obtain ⟨dx, us, a1, hf, hc⟩ := q2.ins e2 g
            by_cases hl : fs.length ≤ 900
            · rw [if_pos hl] at p2
              have nf : ∀ ob u, H2 ad ≠ some (.frz ob u) := fun ob u z => by rw [a1] at z; cases z
              have gp := ge_put (o := .ins (He.ga X.K k.str) dx (putF f.str u us)) q2 e2 nf
              refine ⟨ad, _, dx, us, rfl, a1, (ok.ok.fa.cls k hc).2, ok.ok.fa.noat k hc f (List.contains_iff_mem.mp h2), by rw [← Paired.len hf]; omega, ?_⟩
              exact p2 r2 _ σ gp (q2.put e2 nf (.ins hc (rfs_put (RFs.mono gp hf) f ((v1.mono g2).mono gp)))) (((sg.mono g1).mono g2).mono gp)
            · rw [if_neg hl] at p2; exact False.elim p2
          | _ => exact False.elim p2
      | _ => exact False.elim p2
    · cases h
/-- o[i] = v by values -/
def rSetI (K : PySem.W.Frag) (cl : List Nm) (Wx : WX) : V → V → V → Hp → (Hp → Prop) → Prop := fun o i v H Q => ∃ r S wo wi wv, Rel K cl r S H ∧ RV K r H wo o ∧ RV K r H wi i ∧ RV K r H wv v ∧ (match setIW wo wi wv S with
  | .ok _ S' => ∀ r' H', Ge K r H r' H' → Rel K cl r' S' H' → Q H'
  | _ => False)
theorem set_ok {X : Cx} {cl : List Nm} {Wx : WX} (hu : X.A.units + 1 < cLine) : PSet X (rSetI X.K cl Wx) := by
  intro pins s σ H o i v ov iv u Q I ro ri rv h
  obtain ⟨r, S, wo, wi, wv, rel, qo, qi, qv, p⟩ := h
  cases qo with
  | @ref n ad e =>
    simp only [setIW] at p
    cases g : S.get n with
    | none => rw [g] at p; exact False.elim p
    | some d =>
      rw [g] at p
      cases d with
      | lst xs =>
        dsimp only at p
        obtain ⟨vs, a1, hs⟩ := rel.lst e g
        cases qi with
        | int k =>
          dsimp only at p
          cases gj : ixN xs.length k with
          | none => rw [gj] at p; exact False.elim p
          | some j =>
            rw [gj] at p
            dsimp only at p
            have nf : ∀ ob u, H ad ≠ some (.frz ob u) := fun ob u z => by rw [a1] at z; cases z
            have gp := ge_put (o := .lst (vs.set j v)) rel e nf
            refine set_list pins s σ H _ _ v ov iv u Q I ro ri rv ⟨ad, vs, k, j, rfl, rfl, a1, by rw [← hs.length]; exact gj, ?_⟩
            exact p r _ gp (rel.put e nf (.lst (RVs.mono gp (RVs.set qv j hs))))
        | _ => exact False.elim p
      | dct l kvs =>
        cases l with
        | true => exact False.elim p
        | false =>
          dsimp only at p
          obtain ⟨us, a1, hk⟩ := rel.dct e g
          cases gk : wi.key with
          | none => rw [gk] at p; exact False.elim p
          | some k =>
            rw [gk] at p
            dsimp only at p
            by_cases hl : kvs.length ≤ lim
            · rw [if_pos hl] at p
              have ek := qi.key gk
              subst ek
              have nf : ∀ ob u, H ad ≠ some (.frz ob u) := fun ob u z => by rw [a1] at z; cases z
              have gp := ge_put (o := .dK (putK us k v)) rel e nf
              cases (show ov = Value.ref ad from ro)
              refine d_setItem hu I (DPut.k a1 (by rw [← Paired.len hk]; exact lim_lt hl)) ri rv fun s' I' => ⟨_, I', ?_⟩
              exact p r _ gp (rel.put e nf (.dct (RKV.mono gp (rkv_put hk k qv))))
            · rw [if_neg hl] at p; exact False.elim p
      | _ => exact False.elim p
  | _ => exact False.elim p
theorem assign_sub {o i : Expr} {p : Pos} {env : PySem.Env} (hi : plainE i = true) : ∀ v, assign (.Subscript o i p) env v = (do
      let ov ← holding [v] (PySem.eval o env)
      let iv ← holding [v, ov] (PySem.eval i env)
      standAt p
      holding [v, ov, iv] (setItem ov iv v)
      release [v, ov, iv] []) := by
  intro v
  cases i <;> first | rfl | cases hi
theorem sndS_setI {o i e : E} : SndS F N c L (.setI o i e) := .one (fun {sc ss} h => by
  unfold chkS sSetI at h
  split at h
  · rfl
  · cases h) fun X Wx t ok tk h => by
    unfold chkS sSetI at h
    split at h
    · rename_i oo ii p v pos q; cases q
      obtain ⟨h1, h4⟩ := band h
      obtain ⟨h1, h3⟩ := band h1
      obtain ⟨h1, h2⟩ := band h1
      have hu : X.A.units + 1 < cLine := by have := hu65 ok.ok; omega
      have hg : PG X (.Subscript oo ii p) (gSub (tM X.K F.cl Wx (eval c o)) (tM X.K F.cl Wx (eval c i)) (rSetI X.K F.cl Wx)) :=
        pg_sub ((snd_all o).pe X Wx _ ok.ok tk h2) ((snd_all i).pe X Wx _ ok.ok tk h3) (set_ok hu) (assign_sub h1)
      refine PS.imp (ps_asg ((snd_all e).pe X Wx _ ok.ok tk h4) hg (by cases v <;> rfl)) fun D σ H ⟨r, w, S, rel, sg, p⟩ => ⟨r, w, S, rel, sg, ?_⟩
      refine PostS.to sg p fun v S1 r1 H1 u g1 q1 v1 p1 => ⟨r1, w, S1, q1, sg.mono g1, ?_⟩
      refine PostS.to (sg.mono g1) p1 fun a S2 r2 H2 b g2 q2 v2 p2 => ⟨r2, w, S2, q2, (sg.mono g1).mono g2, ?_⟩
      refine PostS.to ((sg.mono g1).mono g2) p2 fun k S3 r3 H3 b3 g3 q3 v3 p3 => ⟨r3, S3, a, k, v, q3, v2.mono g3, v3, (v1.mono g2).mono g3, ?_⟩
      cases es : setIW a k v S3 with
      | ok z S4 => rw [es] at p3; exact fun r' H' g' q' => p3 r' H' σ g' q' ((((sg.mono g1).mono g2).mono g3).mono g')
      | ex y S4 => exact absurd es (by
          unfold setIW
          intro z
          repeat' first | cases z | split at z)
      | no => rw [es] at p3; exact False.elim p3
    · cases h
theorem setAll_len : ∀ {is : List Nat} {ws : List W} {w w' : Env}, setAll is ws w = some w' → is.length = ws.length
  | [], [], _, _, _ => rfl
  | [], _ :: _, _, _, e => by cases e
  | _ :: _, [], _, _, e => by cases e
  | _ :: is, _ :: ws, w, w', e => by rw [List.length_cons, List.length_cons, setAll_len (is := is) e]
theorem sndS_setT {xs : List Nat} {e : E} : SndS F N c L (.setT xs e) := .one (fun {sc ss} h => by
  unfold chkS sSetT at h
  split at h
  · rfl
  · cases h) fun X Wx t ok tk h => by
    unfold chkS sSetT at h
    split at h
    · rename_i ts k p v pos q; cases q
      obtain ⟨h1, h3⟩ := band h
      obtain ⟨h1, h2⟩ := band h1
      have hg : PG X (.Tuple ts k p) (gTgt X.K xs false) := pg_tgt (b := false) (one := false) ok.ok.calm ok.ok.hN ok.ok.nd (fun _ y => ok.fn y) h1
      have hw : swappedStores [.Tuple ts k p] v X.env = pure none := by
        cases v <;> first | rfl | cases h2
      refine PS.imp (ps_asg ((snd_all e).pe X Wx _ ok.ok tk h3) hg (by cases v <;> rfl) hw) fun D σ H ⟨r, w, S, rel, sg, p⟩ => ⟨r, w, S, rel, sg, ?_⟩
      refine PostS.to sg p fun v S1 r1 H1 u g1 q1 v1 p1 => ?_
      cases v with
      | tup vs =>
        dsimp only at p1
        cases es : setAll xs vs w with
        | none => rw [es] at p1; exact False.elim p1
        | some w' =>
          rw [es] at p1
          exact take_ok (one := false) v1 (sg.mono g1) (by show setAll xs vs w = some w'; exact es) fun σ' sg' _ => p1.go q1 sg'
      | _ => exact False.elim p1
    · cases h
theorem sndS_ite {t : E} {a b : S} (ha : SndS F N c L a) (hb : SndS F N c L b) : SndS F N c L (.ite t a b) := .one (fun {sc ss} h => by
  unfold chkS sIte at h
  split at h
  · rfl
  · cases h) fun X Wx t ok tk h => by
    unfold chkS sIte at h
    split at h
    · rename_i e a' b' pos q; cases q
      obtain ⟨h1, h3⟩ := band h
      obtain ⟨h1, h2⟩ := band h1
      refine PS.imp (ps_if ((snd_all _).pt X Wx _ ok.ok tk h1) (ha.pss X Wx _ ok tk h2) (hb.pss X Wx _ ok tk h3)) fun D σ H ⟨r, w, S, rel, sg, p⟩ => ⟨r, w, S, rel, sg, ?_⟩
      simp only [exec] at p
      cases ev : eval c t w S with
      | no => rw [ev] at p; exact False.elim p
      | ex x S1 => rw [ev] at p; exact fun r' H' d g q xr => p r' H' d σ g q (sg.mono g) xr
      | ok v S1 =>
        rw [ev] at p
        cases v with
        | bl b =>
          refine ⟨b, rfl, fun r1 H1 g1 q1 => ?_⟩
          cases b with
          | true => rw [if_pos rfl]; exact ⟨r1, w, S1, q1, sg.mono g1, PostS.mono g1 p⟩
          | false => rw [if_neg Bool.false_ne_true]; exact ⟨r1, w, S1, q1, sg.mono g1, PostS.mono g1 p⟩
        | _ => exact False.elim p
    · cases h
theorem sndS_rse {k : Nm} : SndS F N c L (.rse k) := .one (fun {sc ss} h => by
  unfold chkS sRse at h
  split at h
  · rfl
  · cases h) fun X Wx t ok tk h => by
    unfold chkS sRse at h
    split at h
    · rename_i x p m j p2 p3 pos q; cases q
      obtain ⟨h1, h4⟩ := band h
      obtain ⟨h1, h3⟩ := band h1
      obtain ⟨h1, h2⟩ := band h1
      have h1 := dec_of h1
      subst h1
      obtain ⟨gC, ex, kp, sb, ty⟩ := ok.ok.fa.exc k (List.contains_iff_mem.mp h4)
      have mk := pmk_own (X := X) (m := m) (j := j) (p := p) (p2 := p2) (pos := p3) PySem.F.excBase_ValueError ex gC kp (raises_own sb ty) (gl_of h2 rfl) (bnot h3)
      refine PS.imp (ps_raise ok.ok.calm tk mk) fun D σ H ⟨r, w, S, rel, sg, p⟩ => ?_
      exact p r H none σ .refl rel sg rfl
    · cases h
theorem sndS_rseA {k : Nm} {e : E} : SndS F N c L (.rseA k e) := .one (fun {sc ss} h => by cases h) fun X Wx t ok tk h => by cases h
end
end D
end

section
set_option maxHeartbeats 1000000
/-! Statements: several at once. -/
namespace D
open PySem PySem.Spec PyProof.Rows L2

section
variable {F : Fx} {N : List Str} {c : Call} {L : Nat}
theorem noStar {vs : List Expr} (h : vs.all plainE = true) : (vs.any fun | .Starred .. => true | _ => false) = false := by
  induction vs with
  | nil => rfl
  | cons v vs ih =>
    rw [List.all_cons, Bool.and_eq_true] at h
    rw [List.any_cons, ih h.2, Bool.or_false]
    cases v <;> first | rfl | cases h.1
theorem sw_none {ts vs : List Expr} {k k2 : Nat} {p p2 : Pos} {env : PySem.Env} (h : vs.all (foldedForSure 8) = true) : swappedStores [.Tuple ts k p] (.Tuple vs k2 p2) env = pure none := by
  unfold swappedStores
  dsimp only
  split
  · rfl
  · split
    · rfl
    · split
      · rfl
      · first | rfl | (rw [if_pos h] <;> rfl)
theorem sw_cel {ts vs : List Expr} {k k2 : Nat} {p p2 : Pos} {env : PySem.Env} (h : twoCel env.scope ts = true) : swappedStores [.Tuple ts k p] (.Tuple vs k2 p2) env = pure none := by
  unfold twoCel at h
  split at h
  · rename_i x px y py
    have cl : (some NameKind.cell == some NameKind.local) = false := rfl
    have hn : ((([Expr.Name x px, Expr.Name y py].filterMap fun
        | .Name id pos => if env.kindOf id == some .local && pos.line == (([Expr.Name x px, Expr.Name y py].head?.map (·.pos.line)).getD 0) then some id else none
        | _ => none).length) != [Expr.Name x px, Expr.Name y py].length) = true := by
      rw [Bool.or_eq_true] at h
      rcases h with h | h
      · have e : env.kindOf x = some .cell := cel_of h
        simp only [List.filterMap_cons, List.filterMap_nil, e, cl, Bool.false_and, Bool.false_eq_true, if_false]
        split <;> rfl
      · have e : env.kindOf y = some .cell := cel_of h
        simp only [List.filterMap_cons, List.filterMap_nil, e, cl, Bool.false_and, Bool.false_eq_true, if_false]
        split <;> rfl
    unfold swappedStores
    dsimp only
    split
    · rfl
    · split
      · rfl
      · rw [if_pos (by rw [Bool.or_eq_true]; exact .inl hn)]
  · cases h
theorem sw_two {x y : Str} {px py pt p2 : Pos} {k k2 : Nat} {a b : Expr} {env : PySem.Env} (hk : env.scope.kind = .function) (hx : env.scope.names.lookup x = some .local) (hy : env.scope.names.lookup y = some .local) (hxy : x ≠ y) (hl : (py.line == px.line) = true)
    (hp : [a, b].all plainE = true) (hf : [a, b].all (foldedForSure 8) = false) (hc : [a, b].all (constantsAlone 8) = false) : swappedStores [.Tuple [.Name x px, .Name y py] k pt] (.Tuple [a, b] k2 p2) env = pure (some [x, y]) := by
  have kx : env.kindOf x = some .local := hx
  have ky : env.kindOf y = some .local := hy
  have hb : env.blockKind = .function := by unfold Env.blockKind; rw [hk]; rfl
  have hs := noStar hp
  have hd : (y == x) = false := beq_eq_false_iff_ne.mpr (Ne.symm hxy)
  have hd2 : (x == y) = false := beq_eq_false_iff_ne.mpr hxy
  have n2 : [x, y].eraseDups = [x, y] := by
    simp [List.eraseDups, List.eraseDupsBy, List.eraseDupsBy.loop, hd, hd2]
  unfold swappedStores
  dsimp only
  refine (if_neg (by rw [hb]; simp)).trans ?_
  refine (if_neg (fun z => absurd (hs.symm.trans z) Bool.false_ne_true)).trans ?_
  simp only [List.filterMap_cons, List.filterMap_nil, List.head?_cons, Option.map_some, Option.getD_some, kx, ky, Expr.pos, beq_iff_eq.mp hl, beq_self_eq_true, Bool.and_self, if_true]
  simp only [hf, hc, n2]
  rfl
theorem sw_three {x y z : Str} {px py pz pt p2 : Pos} {k k2 : Nat} {a b d : Expr} {env : PySem.Env} (hk : env.scope.kind = .function) (hx : env.scope.names.lookup x = some .local) (hy : env.scope.names.lookup y = some .local) (hz : env.scope.names.lookup z = some .local) (hxy : x ≠ y) (hxz : x ≠ z) (hyz : y ≠ z) (hl : (py.line == px.line) = true) (hl2 : (pz.line == px.line) = true)
    (hp : [a, b, d].all plainE = true) (hf : [a, b, d].all (foldedForSure 8) = false) (hc : [a, b, d].all (constantsAlone 8) = false) : swappedStores [.Tuple [.Name x px, .Name y py, .Name z pz] k pt] (.Tuple [a, b, d] k2 p2) env = pure (some [x, y, z]) := by
  have kx : env.kindOf x = some .local := hx
  have ky : env.kindOf y = some .local := hy
  have kz : env.kindOf z = some .local := hz
  have hb : env.blockKind = .function := by unfold Env.blockKind; rw [hk]; rfl
  have hs := noStar hp
  have d1 : (y == x) = false := beq_eq_false_iff_ne.mpr (Ne.symm hxy)
  have d2 : (x == y) = false := beq_eq_false_iff_ne.mpr hxy
  have d3 : (z == x) = false := beq_eq_false_iff_ne.mpr (Ne.symm hxz)
  have d4 : (x == z) = false := beq_eq_false_iff_ne.mpr hxz
  have d5 : (z == y) = false := beq_eq_false_iff_ne.mpr (Ne.symm hyz)
  have d6 : (y == z) = false := beq_eq_false_iff_ne.mpr hyz
  have n2 : [x, y, z].eraseDups = [x, y, z] := by
    simp [List.eraseDups, List.eraseDupsBy, List.eraseDupsBy.loop, d1, d2, d3, d4, d5, d6]
  unfold swappedStores
  dsimp only
  refine (if_neg (by rw [hb]; simp)).trans ?_
  refine (if_neg (fun z => absurd (hs.symm.trans z) Bool.false_ne_true)).trans ?_
  simp only [List.filterMap_cons, List.filterMap_nil, List.head?_cons, Option.map_some, Option.getD_some, kx, ky, Expr.pos, beq_iff_eq.mp hl, beq_self_eq_true, Bool.and_self, if_true, kz, beq_iff_eq.mp hl2]
  simp only [hf, hc, n2]
  rfl
theorem PostS.toA {K : PySem.W.Frag} {cl : List Nm} {Wx : WX} {s : L2.St} {r : Rho} {H : Hp} {es : E} {w : Env} {S : Sto} {f : W → Sto → RS} {D : Ends} {Q' : List V → Hp → Prop} (sg : RSig K r H w s) (ha : isArgs es = true) (h : PostS K cl Wx r H D ((eval c es w S).to w f))
    (k : ∀ ws S r' H' us, ws.length = argN es → Ge K r H r' H' → Rel K cl r' S H' → RVs K r' H' ws us → PostS K cl Wx r' H' D (f (.tup ws) S) → Q' us H') : PostA K cl Wx s r H Q' (eval c es w S) := by
  cases e : eval c es w S with
  | ok v S' =>
    rw [e] at h
    obtain ⟨ws, e1, e2⟩ := args_len ha e
    subst e1
    exact fun r' H' us g q rv => k ws S' r' H' us e2 g q rv (PostS.mono g (show PostS K cl Wx r H D (f (.tup ws) S') from h))
  | ex x S' => rw [e] at h; exact fun r' H' d g q x => h r' H' d s g q (sg.mono g) x
  | no => rw [e] at h; exact h
theorem ne_at {N : List Str} (nd : N.Nodup) {i j : Nat} {x y : Str} (hi : N[i]? = some x) (hj : N[j]? = some y) (h : i ≠ j) : x ≠ y := fun e => by
  subst e
  obtain ⟨h1, e1⟩ := List.getElem?_eq_some_iff.mp hi
  obtain ⟨h2, e2⟩ := List.getElem?_eq_some_iff.mp hj
  have pw := List.pairwise_iff_getElem.mp nd
  rcases Nat.lt_or_gt_of_ne h with l | l
  · exact pw i j h1 h2 l (e1.trans e2.symm)
  · exact pw j i h2 h1 l (e2.trans e1.symm)
theorem sndS_par {xs : List Nat} {es : E} : SndS F N c L (.par xs es) := .one (fun {sc ss} h => by
  unfold chkS at h
  have h := (band h).2
  unfold sPar at h
  split at h
  · rfl
  · cases h) fun X Wx t ok tk h => by
    unfold chkS at h
    obtain ⟨h0, g⟩ := band h
    clear h
    have h := g
    clear g
    obtain ⟨ha, hn⟩ := band h0
    unfold sPar at h
    split at h
    · rename_i ts k p vs k2 p2 pos q; cases q
      have folded : swappedStores [.Tuple ts k p] (.Tuple vs k2 p2) X.env = pure none → PG X (.Tuple ts k p) (gTgt X.K xs false) → chk F N es .a X.env.scope vs = true → PS X (.Assign [.Tuple ts k p] (.Tuple vs k2 p2) pos) (tMS X.K F.cl Wx (exec c (.par xs es))) := fun hsw hg h4 => by
        have hT : chk F N (.tup es) .e X.env.scope [.Tuple vs k2 p2] = true := by
          show (isArgs es && decide (argN es ≤ 1000) && chk F N es .a X.env.scope vs) = true
          rw [ha, hn, h4]; rfl
        refine PS.imp (ps_asg ((snd_all (.tup es)).pe X Wx _ ok.ok tk hT) hg (by rfl) hsw) fun D σ H ⟨r, w, S, rel, sg, p⟩ => ⟨r, w, S, rel, sg, ?_⟩
        simp only [eval]
        simp only [exec] at p
        cases e : eval c es w S with
        | no => rw [e] at p; exact False.elim p
        | ex x S1 => rw [e] at p; exact fun r' H' d g q x => p r' H' d σ g q (sg.mono g) x
        | ok v S1 =>
          rw [e] at p
          obtain ⟨ws, e1, e2⟩ := args_len ha e
          subst e1
          intro r1 H1 u g1 q1 v1
          have p1 := PostS.mono g1 p
          have p1 : PostS X.K F.cl Wx r1 H1 D (match (generalizing := false) setAll xs ws w with
            | some σ => .nx σ S1
            | none => .no) := p1
          cases es : setAll xs ws w with
          | none => rw [es] at p1; exact False.elim p1
          | some w' =>
            rw [es] at p1
            exact take_ok (one := false) v1 (sg.mono g1) (by show setAll xs ws w = some w'; exact es) fun σ' sg' _ => p1.go q1 sg'
      rw [Bool.or_eq_true] at h
      rcases h with h | h
      · obtain ⟨h1, h4⟩ := band h
        obtain ⟨h1, h2⟩ := band h1
        exact folded (sw_cel h1) (pg_tgt (b := false) (one := false) ok.ok.calm ok.ok.hN ok.ok.nd (fun _ => ok.fn) h2) h4
      obtain ⟨h1, h5⟩ := band h
      obtain ⟨h1, h4⟩ := band h1
      obtain ⟨h1, h3⟩ := band h1
      obtain ⟨h1, h2⟩ := band h1
      have h2 := dec_of h2
      have h3 := dec_of h3
      have hN : X.N.Nodup := by rw [ok.ok.hN]; exact ok.ok.nd
      by_cases hf : vs.all (foldedForSure 8) = true
      · exact folded (sw_none hf) (pg_tgt (b := true) (one := false) ok.ok.calm ok.ok.hN ok.ok.nd (fun z => by cases z) h1) h4
      · have hff : vs.all (foldedForSure 8) = false := Bool.eq_false_iff.mpr hf
        rw [hff, Bool.false_or] at h5
        obtain ⟨h5, h6⟩ := band h5
        have hcc := bnot h5
        obtain ⟨hp, hs⟩ := (snd_all es).pa X Wx vs ok.ok tk ha h4
        split at h6
        · rename_i x px y py
          match xs, h1, h2 with
          | i :: is, h1, h2 =>
            obtain ⟨x', p', ts', e, i1, i2, h1⟩ := tgt_cons h1
            cases e
            match is, h1, h2 with
            | j :: js, h1, h2 =>
              obtain ⟨y', q', ts'', e, j1, j2, h1⟩ := tgt_cons h1
              cases e
              match js, h1, h2 with
              | _ :: _, h1, _ => cases h1
              | [], h1, h2 =>
                match vs, h3, hff, hcc, hp, hs with
                | [a, b], _, hff, hcc, hp, hs =>
                  have hij : i ≠ j := by
                    intro z; subst z
                    simp at h2
                  have i2 := lcl_of i2
                  have j2 := lcl_of j2
                  refine PS.imp (ps_par (X := X) (i := i) (j := j) ok.ok.calm hN (by rw [ok.ok.hN]; exact i1) (by rw [ok.ok.hN]; exact j1) hij i2 j2 hp
                    (sw_two ok.knd i2 j2 (ne_at ok.ok.nd i1 j1 hij) h6 hs hff hcc)) fun D σ H ⟨r, w, S, rel, sg, p⟩ => ⟨r, w, S, rel, sg, ?_⟩
                  refine PostS.toA sg ha p fun ws S1 r1 H1 us el g1 q1 v1 p1 => ?_
                  match ws, us, v1, p1 with
                  | [], _, _, p1 => exact False.elim p1
                  | [_], _, _, p1 => exact False.elim p1
                  | _ :: _ :: _ :: _, _, _, p1 => exact False.elim p1
                  | [wa, wb], _, .cons ra (.cons rb .nil), p1 => exact ⟨_, _, rfl, p1.go q1 (((sg.mono g1).set i ra).set j rb)⟩
        · rename_i x px y py z pz
          obtain ⟨h6, h7⟩ := band h6
          match xs, h1, h2 with
          | i :: is, h1, h2 =>
            obtain ⟨x', p', ts', e, i1, i2, h1⟩ := tgt_cons h1
            cases e
            match is, h1, h2 with
            | j :: js, h1, h2 =>
              obtain ⟨y', q', ts'', e, j1, j2, h1⟩ := tgt_cons h1
              cases e
              match js, h1, h2 with
              | l :: ls, h1, h2 =>
                obtain ⟨z', q2', ts3, e, l1, l2, h1⟩ := tgt_cons h1
                cases e
                match ls, h1, h2 with
                | _ :: _, h1, _ => cases h1
                | [], h1, h2 =>
                  match vs, h3, hff, hcc, hp, hs with
                  | [a, b, d], _, hff, hcc, hp, hs =>
                    have h2 := List.nodup_cons.mp h2
                    have h2b := List.nodup_cons.mp h2.2
                    have hij : i ≠ j := fun z => h2.1 (by subst z; simp)
                    have hil : i ≠ l := fun z => h2.1 (by subst z; simp)
                    have hjl : j ≠ l := fun z => h2b.1 (by subst z; simp)
                    have i2 := lcl_of i2
                    have j2 := lcl_of j2
                    have l2 := lcl_of l2
                    refine PS.imp (ps_par3 (X := X) (i := i) (j := j) (l := l) ok.ok.calm hN (by rw [ok.ok.hN]; exact i1) (by rw [ok.ok.hN]; exact j1) (by rw [ok.ok.hN]; exact l1) hij hil hjl i2 j2 l2 hp
                      (sw_three ok.knd i2 j2 l2 (ne_at ok.ok.nd i1 j1 hij) (ne_at ok.ok.nd i1 l1 hil) (ne_at ok.ok.nd j1 l1 hjl) h6 h7 hs hff hcc)) fun D σ H ⟨r, w, S, rel, sg, p⟩ => ⟨r, w, S, rel, sg, ?_⟩
                    refine PostS.toA sg ha p fun ws S1 r1 H1 us el g1 q1 v1 p1 => ?_
                    match ws, us, v1, p1 with
                    | [], _, _, p1 => exact False.elim p1
                    | [_], _, _, p1 => exact False.elim p1
                    | [_, _], _, _, p1 => exact False.elim p1
                    | _ :: _ :: _ :: _ :: _, _, _, p1 => exact False.elim p1
                    | [wa, wb, wd], _, .cons ra (.cons rb (.cons rd .nil)), p1 => exact ⟨_, _, _, rfl, p1.go q1 ((((sg.mono g1).set i ra).set j rb).set l rd)⟩
        · cases h6
    · cases h
end
end D
end

section
set_option maxHeartbeats 1000000
/-! Statements: loops, refusals met. -/
namespace D
open PySem PySem.Spec PyProof.Rows L2

section
variable {K : PySem.W.Frag} {cl : List Nm} {Wx : WX}
/-- one turn, then the rest -/
abbrev ends (D : Ends) (Nx : L2.St → Hp → Prop) : Ends := { D with nx := Nx, ct := Nx, bk := D.nx }
theorem PostS.turn {r : Rho} {H : Hp} {D : Ends} {m : RS} {f : Env → Sto → RS} {Nx : L2.St → Hp → Prop} (h : PostS K cl Wx r H D (m.then f)) (k : ∀ w S r' H' s, Ge K r H r' H' → Rel K cl r' S H' → RSig K r' H' w s → PostS K cl Wx r' H' D (f w S) → Nx s H') : PostS K cl Wx r H (ends D Nx) m := by
  cases m with
  | nx w S => exact fun r' H' s g q sg => k w S r' H' s g q sg (PostS.mono g (show PostS K cl Wx r H D (f w S) from h))
  | rt v S => exact h
  | ex x w S => exact h
  | no => exact h
/-- what a loop's body does of a value, by its reading -/
abbrev StepS (g : TG) (tb : TS) (D : Ends) (Nx : L2.St → Hp → Prop) (v : V) (σ : L2.St) (H : Hp) : Prop := g v σ H fun σ2 H2 => tb (ends D Nx) σ2 H2
abbrev LoopS (J : It) (g : TG) (tb : TS) (D : Ends) (σ : L2.St) (H1 : Hp) : Prop := ∃ Wv : Nat → Nat → L2.St → Hp → Prop, (∃ m, Wv 0 m σ H1) ∧ ∀ i m σ H, Wv i m σ H →
  (J.stop i H ∧ D.nx σ H) ∨ (J.go i H ∧ ∃ Nx : L2.St → Hp → Prop, (∀ σ' H', Nx σ' H' → ∃ m', m' < m ∧ Wv (i + 1) m' σ' H') ∧ ∀ x H', J.yld i H x H' → StepS g tb D Nx x σ H')
theorem for_vals {J : It} {ws : List W} {P : Rho → Hp → Prop} (Vx : Vw K J ws P) {turn : W → Env → Sto → RS} {g : TG} {tb : TS} {D : Ends}
    (hs : ∀ r S w σ H x v Nx, Rel K cl r S H → RSig K r H w σ → RV K r H x v → PostS K cl Wx r H (ends D Nx) (turn x w S) → StepS g tb D Nx v σ H) {r0 : Rho} {S0 : Sto} {w0 : Env} {σ0 : L2.St} {H0 : Hp} (hP : P r0 H0) (rel : Rel K cl r0 S0 H0) (sg : RSig K r0 H0 w0 σ0) (h : PostS K cl Wx r0 H0 D (walkS turn ws w0 S0)) :
    LoopS J g tb D σ0 H0 := by
  refine ⟨fun i m σ H => m = ws.length - i ∧ i ≤ ws.length ∧ ∃ r w S, P r H ∧ Rel K cl r S H ∧ RSig K r H w σ ∧ PostS K cl Wx r H D (walkS turn (ws.drop i) w S), ⟨ws.length, by simp, Nat.zero_le _, r0, w0, S0, hP, rel, sg, by simpa using h⟩, ?_⟩
  rintro i m σ H ⟨rfl, hi, r, w, S, p, rel, sg, h⟩
  by_cases hlt : i < ws.length
  · refine .inr ⟨Vx.go i r H p hlt, fun σ' H' => ∃ r' w' S', P r' H' ∧ Rel K cl r' S' H' ∧ RSig K r' H' w' σ' ∧ PostS K cl Wx r' H' D (walkS turn (ws.drop (i + 1)) w' S'), fun σ' H' q => ⟨ws.length - (i + 1), by omega, rfl, hlt, q⟩, fun x H' y => ?_⟩
    obtain ⟨e, wv, e1, rv⟩ := Vx.yld i r H x H' p hlt y
    subst e
    have ed : ws.drop i = wv :: ws.drop (i + 1) := by
      rw [List.drop_eq_getElem_cons hlt]
      have : ws[i] = wv := by
        rw [List.getElem?_eq_getElem hlt] at e1
        exact Option.some.inj e1
      rw [this]
    rw [ed] at h
    refine hs r S w σ H' wv x _ rel sg rv ?_
    unfold walkS at h
    exact PostS.turn h fun w' S' r' H2 s' g q sg' p' => ⟨r', w', S', Vx.mono _ _ _ _ p g, q, sg', p'⟩
  · have e : i = ws.length := by omega
    subst e
    rw [List.drop_length] at h
    exact .inl ⟨Vx.stop _ r H p (Nat.le_refl _), h.go rel sg⟩
theorem for_list {n : Nat} {a : Addr} {turn : Nat → W → Env → Sto → RS} {g : TG} {tb : TS} {D : Ends} {J : It} (P : Rho → Hp → Prop)
    (hm : ∀ r H r' H', P r H → Ge K r H r' H' → P r' H') (hJs : ∀ r S H i xs, Rel K cl r S H → P r H → lstOf S (.ref n) = some xs → xs.length ≤ i → J.stop i H)
    (hJg : ∀ r S H i xs x, Rel K cl r S H → P r H → lstOf S (.ref n) = some xs → xs[i]? = some x → J.go i H)
    (hs : ∀ i xs r S w σ H x v H' Nx, Rel K cl r S H → P r H → RSig K r H w σ → lstOf S (.ref n) = some xs → xs[i]? = some x → J.yld i H v H' → PostS K cl Wx r H (ends D Nx) (turn i x w S) → StepS g tb D Nx v σ H')
    {r0 : Rho} {S0 : Sto} {w0 : Env} {σ0 : L2.St} {H0 : Hp} (k : Nat) (hP : P r0 H0) (rel : Rel K cl r0 S0 H0) (sg : RSig K r0 H0 w0 σ0) (h : PostS K cl Wx r0 H0 D (walkLS n turn k 0 w0 S0)) : LoopS J g tb D σ0 H0 := by
  refine ⟨fun i m σ H => ∃ r w S, P r H ∧ Rel K cl r S H ∧ RSig K r H w σ ∧ PostS K cl Wx r H D (walkLS n turn m i w S), ⟨k, r0, w0, S0, hP, rel, sg, h⟩, ?_⟩
  rintro i m σ H ⟨r, w, S, p, rel, sg, h⟩
  cases m with
  | zero =>
    unfold walkLS at h
    split at h
    · rename_i xs g
      split at h
      · rename_i hl
        exact .inl ⟨hJs r S H i xs rel p g hl, h.go rel sg⟩
      · exact False.elim h
    · exact False.elim h
  | succ k =>
    unfold walkLS at h
    split at h
    · rename_i xs g
      split at h
      · rename_i x hx
        refine .inr ⟨hJg r S H i xs x rel p g hx, fun σ' H' => ∃ r' w' S', P r' H' ∧ Rel K cl r' S' H' ∧ RSig K r' H' w' σ' ∧ PostS K cl Wx r' H' D (walkLS n turn k (i + 1) w' S'), fun σ' H' q => ⟨k, Nat.lt_succ_self _, q⟩, fun v H' y => ?_⟩
        refine hs i xs r S w σ H x v H' _ rel p sg g hx y ?_
        exact PostS.turn h fun w' S' r' H2 s' g' q sg' p' => ⟨r', w', S', hm _ _ _ _ p g', q, sg', p'⟩
      · exact False.elim h
    · exact False.elim h
theorem RSig.monoT {r r' : Rho} {H H' : Hp} {w : Env} {s : L2.St} (g : Gt r H r' H') (h : RSig K r H w s) : RSig K r' H' w s := ⟨h.len, fun i x e => by
  obtain ⟨v, e1, e2⟩ := h.at_ i x e
  exact ⟨v, e1, e2.monoT g⟩⟩
/-- an end while a dict is locked -/
abbrev lockE (D : Ends) (d : Addr) (u : HO) (od : Obj) : Ends := ⟨fun σ' H' => H' d = some (.frz od u) ∧ D.nx σ' (upd H' d u), fun v H' => H' d = some (.frz od u) ∧ D.rt v (upd H' d u), fun σ' H' => H' d = some (.frz od u) ∧ D.bk σ' (upd H' d u), fun σ' H' => H' d = some (.frz od u) ∧ D.ct σ' (upd H' d u)⟩
theorem unlock_ok {r r4 : Rho} {H H4 : Hp} {S4 S5 : Sto} {n : Nat} {d : Addr} {od : Obj} {us : List (Key × V)} (ed : r n = some d) (ad : H d = some (.dK us)) (g0 : Ge K r H r (upd H d (.frz od (.dK us)))) (gg : Ge K r (upd H d (.frz od (.dK us))) r4 H4) (q4 : Rel K cl r4 S4 H4) (eu : unlock n S4 = some S5) :
    H4 d = some (.frz od (.dK us)) ∧ Ge K r H r4 (upd H4 d (.dK us)) ∧ Rel K cl r4 S5 (upd H4 d (.dK us)) ∧ Gt r4 H4 r4 (upd H4 d (.dK us)) := by
  have fz4 : H4 d = some (.frz od (.dK us)) := gg.frz _ _ _ upd_same
  have ed4 : r4 n = some d := gg.ext _ _ ed
  unfold unlock at eu
  split at eu
  · rename_i kvs4 g5
    cases eu
    obtain ⟨o5, a5, n5⟩ := q4.node ed4 g5
    rw [fz4] at a5
    cases a5
    cases n5 with
    | dctL hk4 =>
      have gt : Gt r4 H4 r4 (upd H4 d (.dK us)) := ⟨fun _ _ h => h, fun b vs ⟨ob, h, dn⟩ => ⟨ob, by
        have ne : b ≠ d := fun z => by rw [z, fz4] at h; cases h
        rw [upd_ne ne]; exact h, dn⟩⟩
      have q5 := q4.lay ed4 gt (.dct (hk4.monoT gt))
      have gg2 := g0.trans gg
      refine ⟨fz4, ⟨gg2.ext, fun b vs ⟨ob, h, dn⟩ => ⟨ob, ?_, dn⟩, fun b o u h => ?_⟩, q5, gt⟩
      · have ne : b ≠ d := fun z => by rw [z, ad] at h; cases h
        rw [upd_ne ne]; exact gg2.frz b ob _ h
      · have ne : b ≠ d := fun z => by rw [z, ad] at h; cases h
        rw [upd_ne ne]; exact gg2.frz b o u h
  · cases eu
theorem PostS.locked {r : Rho} {H : Hp} {D : Ends} {m : RS} {n : Nat} {d : Addr} {od : Obj} {us : List (Key × V)} (ed : r n = some d) (ad : H d = some (.dK us)) (g0 : Ge K r H r (upd H d (.frz od (.dK us)))) (p : PostS K cl Wx r H D (m.unlock n)) : PostS K cl Wx r (upd H d (.frz od (.dK us))) (lockE D d (.dK us) od) m := by
  cases m with
  | nx w S =>
    intro r' H' s g q sg
    have p : PostS K cl Wx r H D (match (generalizing := false) unlock n S with
      | some S => .nx w S
      | none => .no) := p
    cases eu : unlock n S with
    | none => rw [eu] at p; exact False.elim p
    | some S5 =>
      rw [eu] at p
      obtain ⟨a1, a2, a3, a4⟩ := unlock_ok ed ad g0 g q eu
      exact ⟨a1, p r' _ s a2 a3 (sg.monoT a4)⟩
  | rt v S =>
    intro r' H' u g q rv
    have p : PostS K cl Wx r H D (match (generalizing := false) unlock n S with
      | some S => .rt v S
      | none => .no) := p
    cases eu : unlock n S with
    | none => rw [eu] at p; exact False.elim p
    | some S5 =>
      rw [eu] at p
      obtain ⟨a1, a2, a3, a4⟩ := unlock_ok ed ad g0 g q eu
      exact ⟨a1, p r' _ u a2 a3 (rv.monoT a4)⟩
  | ex x w S => exact False.elim p
  | no => exact False.elim p
end
section
variable {F : Fx} {N : List Str} {c : Call} {L : Nat}
def turnOf (c : Call) (xs : List Nat) (one : Bool) (body : S) : W → Env → Sto → RS := fun x σ S => match takeT xs one x σ with
  | some σ => exec c body σ S
  | none => .no
theorem turn_ok {K : PySem.W.Frag} {Wx : WX} {xs : List Nat} {one : Bool} {body : S} {D : Ends} {r : Rho} {S : Sto} {w : Env} {σ : L2.St} {H : Hp} {x : W} {v : V} {Nx : L2.St → Hp → Prop} (rel : Rel K F.cl r S H) (sg : RSig K r H w σ) (rv : RV K r H x v)
    (p : PostS K F.cl Wx r H (ends D Nx) (turnOf c xs one body x w S)) : StepS (gTgt K xs one) (tMS K F.cl Wx (exec c body)) D Nx v σ H := by
  unfold turnOf at p
  split at p
  · rename_i w' e
    exact take_ok rv sg e fun σ' sg' _ => ⟨r, w', S, rel, sg', p⟩
  · exact False.elim p
theorem for_plain {K : PySem.W.Frag} {Wx : WX} {xs : List Nat} {one : Bool} {it : E} {body : S} {D : Ends} {r : Rho} {w : Env} {S S1 : Sto} {v : W} {wk : Iw} {σ : L2.St} {H : Hp} (rel : Rel K F.cl r S H) (sg : RSig K r H w σ) (ev : eval c it w S = .ok v S1) (hw : iterW v S1 = some wk)
    (p : PostS K F.cl Wx r H D (walkIS wk (turnOf c xs one body) w S1)) : tFor (tMI K F.cl Wx (eval c it)) (gTgt K xs one) (tMS K F.cl Wx (exec c body)) D σ H := by
  refine ⟨r, w, S, rel, sg, ?_⟩
  rw [ev]
  refine ⟨iterW_walks hw, fun r1 H1 J g1 q1 ir => ?_⟩
  have p1 := PostS.mono g1 p
  have sg1 := sg.mono g1
  have hs : ∀ r S w σ H x v Nx, Rel K F.cl r S H → RSig K r H w σ → RV K r H x v → PostS K F.cl Wx r H (ends D Nx) (turnOf c xs one body x w S) → StepS (gTgt K xs one) (tMS K F.cl Wx (exec c body)) D Nx v σ H := fun r S w σ H x v Nx rel sg rv p => turn_ok rel sg rv p
  cases ir with
  | tup e1 h1 =>
    cases hw
    exact for_vals vw_tup hs ⟨e1, h1⟩ q1 sg1 p1
  | rng =>
    cases hw
    exact for_vals vw_rng hs trivial q1 sg1 p1
  | lst e1 h1 =>
    rename_i n a ys
    have hk : ∃ k, wk = .list n k := by
      simp only [iterW] at hw
      split at hw
      · exact ⟨_, (Option.some.inj hw).symm⟩
      · exact ⟨_, (Option.some.inj hw).symm⟩
      · cases hw
    obtain ⟨k, hk⟩ := hk
    subst hk
    have seq : ∀ {r S H xs}, Rel K F.cl r S H → r n = some a → lstOf S (.ref n) = some xs → ∃ vs, SqL K H a vs ∧ RVs K r H xs vs := fun {r S H xs} rel ea g => by
      obtain ⟨a', vs, e1, e2, e3⟩ := rel.lstOf (.ref ea) g
      cases e1
      exact ⟨vs, e2, e3⟩
    refine for_list (a := a) (fun r _ => r n = some a) (fun r H r' H' h g => g.ext _ _ h) (fun r S H i xs rel p g hl => ?_) (fun r S H i xs x rel p g hx => ?_) (fun i xs r S w σ H x v H' Nx rel p sg g hx yl h => ?_) k e1 q1 sg1 p1
    · obtain ⟨vs, e1, e2⟩ := seq rel p g
      exact ⟨vs, e1, by rw [← e2.length]; exact hl⟩
    · obtain ⟨vs, e1, e2⟩ := seq rel p g
      obtain ⟨v, e3, rv⟩ := e2.get hx
      exact ⟨vs, v, e1, e3⟩
    · obtain ⟨vs, e1, e2⟩ := seq rel p g
      obtain ⟨v', e3, rv⟩ := e2.get hx
      obtain ⟨e, hy⟩ := yl
      subst e
      have ey := hy vs e1
      rw [e3] at ey
      cases ey
      exact hs r S w σ H' x v Nx rel sg rv h
  | keys e1 h1 e2 h2 =>
    simp only [iterW, h1] at hw
    cases hw
theorem for_dict {K : PySem.W.Frag} {Wx : WX} {xs : List Nat} {one : Bool} {it : E} {body : S} {D : Ends} {r : Rho} {w : Env} {S S2 : Sto} {n : Nat} {kvs : List (Key × W)} {σ : L2.St} {H : Hp} (rel : Rel K F.cl r S H) (sg : RSig K r H w σ) (hn : n < S.next) (hg : S.get n = some (.dct false kvs)) (h2 : S2 = S.put n (.dct true kvs))
    (p : PostS K F.cl Wx r H D (((eval c it w S2).to w fun v' S3 => (match v' with
        | .ref m => if m = n then (match S3.get n with
          | some (.dct true kvs) => walkS (turnOf c xs one body) (kvs.map fun kv => keyW kv.1) w S3
          | _ => .no) else .no
        | _ => .no)).unlock n)) : tLock (tFor (tMI K F.cl Wx (eval c it)) (gTgt K xs one) (tMS K F.cl Wx (exec c body))) D σ H := by
  obtain ⟨d, _, _, ed, eg, _, _⟩ := rel.obj n hn
  obtain ⟨us, ad, hk⟩ := rel.dct ed hg
  refine ⟨d, .dK us, ad, trivial, fun od => ?_⟩
  have nf : ∀ ob u, H d ≠ some (.frz ob u) := fun ob u z => by rw [ad] at z; cases z
  have g0 := ge_put (o := .frz od (.dK us)) rel ed nf
  have q0 : Rel K F.cl r S2 (upd H d (.frz od (.dK us))) := by rw [h2]; exact rel.put ed nf (.dctL (hk.mono g0))
  refine ⟨r, w, S2, q0, sg.mono g0, ?_⟩
  have p := PostS.locked ed ad g0 p
  cases ev : eval c it w S2 with
  | no => rw [ev] at p; exact False.elim p
  | ex y S3 => rw [ev] at p; exact fun r' H' d g q x => p r' H' d σ g q ((sg.mono g0).mono g) x
  | ok v' S3 =>
    rw [ev] at p
    cases v' with
    | ref m =>
      have p1 : PostS K F.cl Wx r (upd H d (.frz od (.dK us))) (lockE D d (.dK us) od) (if m = n then (match (generalizing := false) S3.get n with
          | some (.dct true kvs) => walkS (turnOf c xs one body) (kvs.map fun kv => keyW kv.1) w S3
          | _ => .no) else .no) := p
      split at p1
      · rename_i em
        subst em
        split at p1
        · rename_i kvs3 g3
          refine ⟨by simp only [walks, g3], fun r1 H1 J g1 q1 ir => ?_⟩
          have e1d : r1 m = some d := g1.ext _ _ ed
          have fz : H1 d = some (.frz od (.dK us)) := g1.frz _ _ _ upd_same
          cases ir with
          | lst e1 h1 => simp only [lstOf, g3] at h1; cases h1
          | keys e1 h1 e2 h2 =>
            rename_i a o kv us'
            rw [e1d] at e1
            cases e1
            rw [fz] at e2
            cases e2
            rw [g3] at h1
            cases h1
            exact for_vals (vw_keys (rkv_keys h2)) (fun r S w σ H x v Nx rel sg rv p => turn_ok rel sg rv p) fz q1 ((sg.mono g0).mono g1) (PostS.mono g1 p1)
        · exact False.elim p1
      · exact False.elim p1
    | _ => exact False.elim p
theorem sndS_for {xs : List Nat} {one : Bool} {it : E} {body : S} (hb : SndS F N c L body) : SndS F N c L (.for_ xs one it body) := .one (fun {sc ss} h => by
  unfold chkS sFor at h
  split at h
  · rfl
  · cases h) fun X Wx t ok tk h => by
    unfold chkS sFor at h
    split at h
    · rename_i tg ie b pos q; cases q
      obtain ⟨h1, h4⟩ := band h
      obtain ⟨h1, h3⟩ := band h1
      obtain ⟨h1, h2⟩ := band h1
      have go : PS X (.For tg ie b [] pos) (tFor (tMI X.K F.cl Wx (eval c it)) (gTgt X.K xs one) (tMS X.K F.cl Wx (exec c body))) :=
        ps_for ok.pass ok.ok.calm ((snd_all it).pi X Wx tg ie ok.ok tk h3) (pg_tgt (b := false) ok.ok.calm ok.ok.hN ok.ok.nd (fun _ y => ok.fn y) h2) (hb.pss X Wx b ok tk h4) (fold_of h1)
      refine ⟨fun pins s σ H D I q => ?_⟩
      obtain ⟨r, w, S, rel, sg, p⟩ := q
      simp only [exec] at p
      cases ev : eval c it w S with
      | no => rw [ev] at p; exact False.elim p
      | ex y S1 =>
        rw [ev] at p
        refine go.run pins s σ H D I ⟨r, w, S, rel, sg, ?_⟩
        rw [ev]
        exact fun r' H' d g q x => p r' H' d σ g q (sg.mono g) x
      | ok v S1 =>
        rw [ev] at p
        cases hd : isDct S v with
        | none =>
          cases hw : iterW v S1 with
          | none =>
            have p : PostS X.K F.cl Wx r H D .no := by
              simp only [R.to, hd, hw] at p
              exact p
            exact False.elim p
          | some wk =>
            simp only [R.to, hd, hw] at p
            exact go.run pins s σ H D I (for_plain rel sg ev hw p)
        | some n =>
          obtain ⟨e1, hn, kvs, hg⟩ := isDct_inv hd
          have hl : lock n S = some (S.put n (.dct true kvs)) := by simp only [lock, hg]
          simp only [R.to, hd, hl] at p
          exact (ps_lock go).run pins s σ H D I (for_dict rel sg hn hg rfl p)
    · cases h
end
end D
end

section
set_option maxHeartbeats 1000000
/-! Statements: enumerate, while, refusals met; all. -/
namespace D
open PySem PySem.Spec PyProof.Rows L2

section
variable {F : Fx} {N : List Str} {c : Call} {L : Nat}
theorem sndS_forE {i x : Nat} {a : E} {body : S} (hb : SndS F N c L body) : SndS F N c L (.forE i x a body) := .one (fun {sc ss} h => by
  unfold chkS sForE at h
  split at h
  · rfl
  · cases h) fun X Wx t ok tk h => by
    unfold chkS sForE at h
    split at h
    · rename_i ts k p nm p2 e pos b pos2 q; cases q
      obtain ⟨h1, h5⟩ := band h
      obtain ⟨h1, h4⟩ := band h1
      obtain ⟨h1, h3⟩ := band h1
      obtain ⟨h1, h2⟩ := band h1
      obtain ⟨en, g1, g2⟩ := free_inv h1
      subst en
      have hA : PA X [e] (tCons (tM X.K F.cl Wx (eval c a)) tNil) := pa_cons ((snd_all a).pe X Wx _ ok.ok tk h4) pa_nil (star1 h3)
      have go : PS X (.For (.Tuple ts k p) (.Call (.Name "enumerate" p2) [e] [] pos) b [] pos2) (tFor (iEnum X.K (tCons (tM X.K F.cl Wx (eval c a)) tNil)) (gTgt X.K [i, x] false) (tMS X.K F.cl Wx (exec c body))) :=
        ps_for ok.pass ok.ok.calm (pi_enum (gl_of g1 rfl) (ok.ok.fa.free _ g2) hA (star1 h3)) (pg_tgt (b := false) (one := false) ok.ok.calm ok.ok.hN ok.ok.nd (fun _ y => ok.fn y) h2) (hb.pss X Wx b ok tk h5) (fun _ => rfl)
      refine PS.imp go fun D σ H ⟨r, w, S, rel, sg, p⟩ => ⟨r, w, S, rel, sg, ?_⟩
      refine PostS.to sg p fun v S1 r1 H1 u g1 q1 v1 p1 => ?_
      cases v with
      | ref n =>
        dsimp only at p1
        cases gl : lstOf S1 (.ref n) with
        | none => rw [gl] at p1; exact False.elim p1
        | some xs =>
          rw [gl] at p1
          dsimp only at p1
          obtain ⟨ad, vs, eu, sq, hv⟩ := q1.lstOf v1 gl
          subst eu
          have en : r1 n = some ad := by cases v1; assumption
          refine ⟨ad, vs, rfl, sq, ?_⟩
          have seq : ∀ {r S H xs}, Rel X.K F.cl r S H → r n = some ad → lstOf S (.ref n) = some xs → ∃ vs, SqL X.K H ad vs ∧ RVs X.K r H xs vs := fun {r S H xs} rel ea g => by
            obtain ⟨a', vs, e1, e2, e3⟩ := rel.lstOf (.ref ea) g
            cases e1
            exact ⟨vs, e2, e3⟩
          refine for_list (a := ad) (fun r _ => r n = some ad) (fun r H r' H' h g => g.ext _ _ h) (fun r S H i xs rel p g hl => ?_) (fun r S H i xs x rel p g hx => ?_) (fun j xs r S w σ H y v H' Nx rel p sg g hx yl h => ?_) xs.length en q1 (sg.mono g1) p1
          · obtain ⟨vs, e1, e2⟩ := seq rel p g
            exact ⟨vs, e1, by rw [← e2.length]; exact hl⟩
          · obtain ⟨vs, e1, e2⟩ := seq rel p g
            obtain ⟨v, e3, rv⟩ := e2.get hx
            exact ⟨vs, v, e1, e3⟩
          · obtain ⟨vs, e1, e2⟩ := seq rel p g
            obtain ⟨v', e3, rv⟩ := e2.get hx
            obtain ⟨T, z, ev, hT, eH, hy⟩ := yl
            subst ev eH
            have ey := hy vs e1
            rw [e3] at ey
            cases ey
            have gf : Ge X.K r H r (upd H T (.tup [.int (j : Nat), v'])) := ge_fresh hT
            refine take_tup_ok (ws := [.int (j : Nat), y]) (SqT.of upd_same) (.cons (.int _) (.cons (rv.mono gf) .nil)) (sg.mono gf) (w' := (w.set i (some (.int (j : Nat)))).set x (some y)) rfl fun σ' sg' _ => ⟨r, _, S, rel.fresh hT, sg', PostS.mono gf h⟩
      | _ => exact False.elim p1
    · cases h
theorem sndS_whl {t : E} {body : S} (hb : SndS F N c L body) : SndS F N c L (.whl t body) := .one (fun {sc ss} h => by
  unfold chkS sWhl at h
  split at h
  · rfl
  · cases h) fun X Wx st ok tk h => by
    unfold chkS sWhl at h
    split at h
    · rename_i e b pos q; cases q
      obtain ⟨h1, h2⟩ := band h
      refine PS.imp (ps_while ok.pass ((snd_all t).pt X Wx _ ok.ok tk h1) (hb.pss X Wx b ok tk h2)) fun D σ H ⟨r, w, S, rel, sg, p⟩ => ?_
      refine ⟨fun m σ H => ∃ r w S, Rel X.K F.cl r S H ∧ RSig X.K r H w σ ∧ PostS X.K F.cl Wx r H D (whlF (fun σ S => eval c t σ S) (fun σ S => exec c body σ S) m w S), ⟨fuel, r, w, S, rel, sg, p⟩, ?_⟩
      rintro m σ H ⟨r, w, S, rel, sg, p⟩
      cases m with
      | zero => exact False.elim p
      | succ k =>
        unfold whlF at p
        refine ⟨r, w, S, rel, sg, ?_⟩
        cases ev : eval c t w S with
        | no => rw [ev] at p; exact False.elim p
        | ex x S1 => rw [ev] at p; exact fun r' H' d g q xr => p r' H' d σ g q (sg.mono g) xr
        | ok v S1 =>
          rw [ev] at p
          cases v with
          | bl b =>
            refine ⟨b, rfl, fun r1 H1 g1 q1 => ?_⟩
            cases b with
            | true =>
              rw [if_pos rfl]
              refine ⟨fun σ' H' => ∃ r w S, Rel X.K F.cl r S H' ∧ RSig X.K r H' w σ' ∧ PostS X.K F.cl Wx r H' D (whlF (fun σ S => eval c t σ S) (fun σ S => exec c body σ S) k w S), fun σ' H' q => ⟨k, Nat.lt_succ_self _, q⟩, r1, w, S1, q1, sg.mono g1, ?_⟩
              exact PostS.turn (PostS.mono g1 p) fun w' S' r' H2 s' g q sg' p' => ⟨r', w', S', q, sg', p'⟩
            | false => rw [if_neg Bool.false_ne_true]; exact (PostS.mono g1 p).go q1 (sg.mono g1)
          | _ => exact False.elim p
    · cases h
theorem sndS_tri {body : S} {cs : List Nm} {k : Nm} {o : Option Nat} {suite : S} (hb : SndS F N c L body) : SndS F N c L (.tri body cs k o suite) := by
  cases o with
  | some _ => exact .one (fun {sc ss} h => by cases h) fun X Wx t ok tk h => by cases h
  | none =>
    refine .one (fun {sc ss} h => by
      have h := (band h).2
      unfold sTri at h
      split at h
      · rfl
      · cases h) fun X Wx t ok tk h => ?_
    obtain ⟨h0, g⟩ := band h
    clear h
    have h := g
    clear g
    obtain ⟨hsu, hcs⟩ := band h0
    unfold sTri at h
    split at h
    · rename_i b x np ss p pos q; cases q
      obtain ⟨h1, h7⟩ := band h
      obtain ⟨h1, h6⟩ := band h1
      obtain ⟨h1, h5⟩ := band h1
      obtain ⟨h1, h4⟩ := band h1
      obtain ⟨h1, h3⟩ := band h1
      obtain ⟨h1, h2⟩ := band h1
      have h1 := dec_of h1
      subst h1
      have h4 := dec_of h4
      subst h4
      obtain ⟨gC, _⟩ := ok.ok.fa.exc _ (List.contains_iff_mem.mp h5)
      have hss : ∃ b₀ rest, ss = b₀ :: rest ∧ ∀ (X' : Cx), X'.K = X.K → PSs X' ss (tMS X.K F.cl Wx (exec c suite)) := by
        unfold suB at hsu
        split at hsu
        · cases ss with
          | nil => cases h7
          | cons t ts =>
            obtain ⟨a1, a2⟩ := band h7
            have a1 := (band a1).2
            cases ts with
            | cons _ _ => cases a2
            | nil =>
              refine ⟨t, [], rfl, fun X' eK => ?_⟩
              unfold chkS sRetN at a1
              split at a1
              · rename_i e; cases e
                exact pss_one (PS.imp ps_retN fun D σ H ⟨r, w, S, rel, sg, p⟩ => p r H .non .refl rel .non)
              · cases a1
        · cases ss with
          | nil => cases h7
          | cons t ts =>
            obtain ⟨a1, a2⟩ := band h7
            have a1 := (band a1).2
            cases ts with
            | cons _ _ => cases a2
            | nil =>
              refine ⟨t, [], rfl, fun X' eK => ?_⟩
              unfold chkS sPass at a1
              split at a1
              · rename_i e; cases e
                exact pss_one (PS.imp ps_pass fun D σ H ⟨r, w, S, rel, sg, p⟩ => p.go rel sg)
              · cases a1
        · cases hsu
      obtain ⟨b₀, rest, e1, hsuite⟩ := hss
      subst e1
      have go := ps_try_only (X := X) (x := Nm.n_DrainError.str) (c := .ref (He.ga X.K Nm.n_DrainError.str)) (body := b) (suite := rest) (b₀ := b₀) (np := np) (pos := pos) (pos' := p) (tb := fun Wz => tMS X.K F.cl Wz (exec c body)) (ts := fun _ _ _ => tMS X.K F.cl Wx (exec c suite)) (Wout := Wx)
        ok.stk ok.frm ⟨gl_of h2 rfl, bnot h3, .inl gC⟩ tk
        (fun Wz pn xe tkz pz => hb.pss (X.tr pn xe) Wz b ⟨⟨ok.ok.fa, ok.ok.hN, ok.ok.nd, ok.ok.calm, ok.ok.room, ⟨ok.ok.fns.ok, ok.ok.fns.non, ok.ok.fns.len⟩⟩, ok.fn, pz, ok.stk, ok.frm, ok.knd⟩ tkz h6)
        (fun a oe cls d pn _ _ => hsuite _ rfl)
      refine PS.imp go fun D σ H ⟨r, w, S, rel, sg, p⟩ => ⟨r, w, S, rel, sg, ?_⟩
      simp only [exec] at p
      cases ev : exec c body w S with
      | nx w1 S1 => rw [ev] at p; exact p
      | rt v S1 => rw [ev] at p; exact p
      | no => rw [ev] at p; exact False.elim p
      | ex y w1 S1 =>
        rw [ev] at p
        dsimp only at p
        split at p
        · rename_i hc
          have hm : y.cls ∈ F.exc := List.contains_iff_mem.mp (List.all_eq_true.mp hcs _ (List.contains_iff_mem.mp hc))
          exact fun r' H' d s g q sg' xr => ⟨true, ok.ok.fa.drain _ hm, fun _ a ha => ⟨r', w1, S1, q, sg', PostS.mono g p⟩, fun z => by cases z⟩
        · exact False.elim p
    · cases h
theorem sndS_all : ∀ s : S, SndS F N c L s
  | .nil => sndS_nil
  | .cons s r => sndS_cons (sndS_all s) (sndS_all r)
  | .pass => sndS_pass
  | .ex _ => sndS_ex
  | .set _ _ => sndS_set
  | .setA _ _ _ => sndS_setA
  | .setI _ _ _ => sndS_setI
  | .setT _ _ => sndS_setT
  | .par _ _ => sndS_par
  | .ite _ a b => sndS_ite (sndS_all a) (sndS_all b)
  | .for_ _ _ _ b => sndS_for (sndS_all b)
  | .forE _ _ _ b => sndS_forE (sndS_all b)
  | .whl _ b => sndS_whl (sndS_all b)
  | .ret _ => sndS_ret
  | .retN => sndS_retN
  | .rse _ => sndS_rse
  | .rseA _ _ => sndS_rseA
  | .tri b _ _ _ _ => sndS_tri (sndS_all b)
end
end D
end

section
set_option maxHeartbeats 1000000
/-! Defs: their arguments. -/
namespace D
open PySem PySem.Spec PyProof.Rows L2
theorem zip_lookup : ∀ {ps : List Str} {us : List Value}, ps.Nodup → us.length = ps.length → ps.filterMap (fun n => ((ps.zip us).lookup n).map (n, ·)) = ps.zip us
  | [], us, _, _ => rfl
  | p :: ps, [], _, h => by cases h
  | p :: ps, u :: us, nd, h => by
    have nd2 := List.nodup_cons.mp nd
    have h2 : us.length = ps.length := by simpa using h
    have ih := zip_lookup nd2.2 h2
    rw [List.filterMap_cons]
    simp only [List.zip_cons_cons, List.lookup_cons, beq_self_eq_true, Option.map_some]
    have ext : ∀ (l : List Str), (∀ x ∈ l, x ≠ p) → l.filterMap (fun n => ((match n == p with
        | true => some u
        | false => (ps.zip us).lookup n)).map (n, ·)) = l.filterMap (fun n => ((ps.zip us).lookup n).map (n, ·)) := by
      intro l
      induction l with
      | nil => intro _; rfl
      | cons x l ih =>
        intro hx
        have e : (x == p) = false := beq_eq_false_iff_ne.mpr (hx x List.mem_cons_self)
        rw [List.filterMap_cons, List.filterMap_cons, ih fun y hy => hx y (List.mem_cons_of_mem _ hy), e]
    refine congrArg _ ((ext ps fun x hx e => nd2.1 (e ▸ hx)).trans ih)
theorem zip_some : ∀ {ps : List Str} {us : List Value}, us.length = ps.length → ∀ n ∈ ps, ((ps.zip us).lookup n).isNone = false
  | [], us, _, n, hn => by cases hn
  | p :: ps, [], h, _, _ => by cases h
  | p :: ps, u :: us, h, n, hn => by
    rw [List.zip_cons_cons, List.lookup_cons]
    cases e : (n == p) with
    | true => rfl
    | false =>
      rcases List.mem_cons.mp hn with z | z
      · rw [z] at e; simp at e
      · exact zip_some (by simpa using h) n z
theorem look_mem {x : Str} {v : Value} : ∀ {l : List (Str × Value)}, l.lookup x = some v → (x, v) ∈ l
  | [], h => by cases h
  | p :: l, h => by
    rw [List.lookup_cons] at h
    cases e : (x == p.1) with
    | true =>
      rw [e] at h
      have e1 := beq_iff_eq.mp e
      have e2 : p.2 = v := Option.some.inj h
      rw [e1, ← e2]
      exact List.mem_cons_self
    | false =>
      rw [e] at h
      exact List.mem_cons_of_mem _ (look_mem h)
def plainArgs (a : Arguments) (ps : List Str) : Bool := a.posonlyargs.isEmpty && a.vararg.isNone && a.kwonlyargs.isEmpty && a.kwarg.isNone && decide (a.args.map (·.arg) = ps) && decide ps.Nodup
theorem binds_of {a : Arguments} {ps : List Str} (h : plainArgs a ps = true) {x qual : Str} {body : List Stmt} {scope : Scope} (kV doc pm : Value) (an : Option Addr) (cdv ct : Value) (us : List Value) (hl : us.length = ps.length) :
    bindArgs (PySem.W.fnOf x qual a body scope .none kV doc pm an cdv ct) ⟨us, []⟩ = pure (ps.zip us) := by
  unfold plainArgs at h
  simp only [Bool.and_eq_true, decide_eq_true_eq, List.isEmpty_iff, Option.isNone_iff_eq_none] at h
  obtain ⟨⟨⟨⟨⟨h1, h2⟩, h3⟩, h4⟩, h5⟩, h6⟩ := h
  have hz := zip_lookup h6 hl
  have hs := zip_some (us := us) hl
  have hf : (ps.take ps.length).filter (fun n => ((ps.zip us).lookup n).isNone) = [] := by
    rw [List.take_length, List.filter_eq_nil_iff]
    intro n hn
    rw [hs n hn]; simp
  unfold bindArgs PySem.W.fnOf
  simp only [h1, h2, h3, h4, h5, List.map_nil, List.nil_append, List.append_nil]
  have e1 : notAStandIn .none = pure () := rfl
  have e2 : ∀ {α : Type} (n : Nat), (List.drop n ([] : List α)).length = 0 := fun n => by rw [List.drop_nil]; rfl
  simp [seqItems?, hl, e1, e2, hf, hz]
  intro y hy hn
  exfalso
  have z := hs y hy
  cases e : (ps.zip us).lookup y with
  | none => rw [e] at z; cases z
  | some v => exact hn v (look_mem e)
end D
end

section
set_option maxHeartbeats 1000000
/-! Defs: each keeps its promise. -/
namespace D
open PySem PySem.Spec PyProof.Rows L2

structure Src where
  at_ : Fk
  dd : He.DefD
  ps : List Str
  df : Df
def scopeB (N P : List Str) (sc : Scope) : Bool := (match sc.kind with
  | .function => true
  | _ => false) && !sc.isCoroutine && !sc.isGenerator && decide N.Nodup && decide (N.take P.length = P) && P.all (locB sc) && sc.names.all fun y => (match y.2 with
  | .free => false
  | _ => true)
theorem scope_of {N P : List Str} {sc : Scope} (h : scopeB N P sc = true) : FnScope N P sc := by
  unfold scopeB at h
  obtain ⟨h, h7⟩ := band h
  obtain ⟨h, h6⟩ := band h
  obtain ⟨h, h5⟩ := band h
  obtain ⟨h, h4⟩ := band h
  obtain ⟨h, h3⟩ := band h
  obtain ⟨h1, h2⟩ := band h
  refine ⟨?_, bnot h2, bnot h3, dec_of h4, dec_of h5, fun x hx => loc_of (List.all_eq_true.mp h6 x hx), fun y hy e => ?_⟩
  · split at h1
    · assumption
    · cases h1
  · have z := List.all_eq_true.mp h7 y hy
    rw [e] at z
    cases z
def okD (F : Fx) (e : Src) : Bool := decide (e.dd.at_ = fkAt e.at_) && e.dd.dfl.isEmpty && e.dd.kwd.isEmpty && plainArgs e.dd.params e.ps && decide (e.ps.length = e.df.np) && scopeB e.df.N e.ps e.dd.scope && chkS F e.df.N e.dd.scope e.df.body e.dd.body
def tabOf (l : List Src) : Tab := fun f => (l.find? fun e => decide (e.at_ = f)).map (·.df)
theorem tab_mem {l : List Src} {f : Fk} {d : Df} (h : tabOf l f = some d) : ∃ e ∈ l, e.at_ = f ∧ e.df = d := by
  unfold tabOf at h
  cases q : l.find? fun e => decide (e.at_ = f) with
  | none => rw [q] at h; cases h
  | some e =>
    rw [q] at h
    exact ⟨e, List.mem_of_find?_eq_some q, of_decide_eq_true (p := e.at_ = f) (List.find?_some (p := fun (e : Src) => decide (e.at_ = f)) q), Option.some.inj h⟩
def lv (k : Nat) : Nat := 2 * k + 1
section
variable {F : Fx} {l : List Src} {P : Program} {w : World} {K : PySem.W.Frag} {mg : Str → Option Value} {base : Heap}
theorem run_zero {T : Tab} {f : Fk} {as : List W} {S : Sto} : run T 0 f as S = .no := rfl
theorem run_non {T : Tab} {f : Fk} (h : T f = none) : ∀ (k : Nat) (as : List W) (S : Sto), run T k f as S = .no
  | 0, _, _ => rfl
  | k + 1, as, S => by simp only [run, h]
theorem run_len {T : Tab} {f : Fk} {d : Df} (h : T f = some d) : ∀ (k : Nat) (as : List W) (S : Sto), as.length ≠ d.np → run T k f as S = .no
  | 0, _, _, _ => rfl
  | k + 1, as, S, hl => by simp only [run, h, if_neg hl]
/-- all defs at a depth -/
def Lev (l : List Src) (F : Fx) (P : Program) (w : World) (K : PySem.W.Frag) (mg : Str → Option Value) (base : Heap) (k : Nat) : Prop := ∀ f d, F.T f = some d → ∃ fd ps, ps.length = d.np ∧
  FnOk P w K mg base (L2.CX P w) (lv k) (He.fAd K (fkAt f)) fd ps (spF K F.cl d.np (run F.T k f)) ∧ Binds K fd ps [] ∧ PySem.W.keepIn K (.ref (He.fAd K (fkAt f))) = true ∧ (∃ e ∈ l, e.at_ = f ∧ e.ps = ps) ∧ (∃ oc od osl, K.lookup (He.fAd K (fkAt f)) = some ⟨oc, od, .func fd, osl⟩) ∧
  ∀ (s : Shared) (us : List Value), us.length = ps.length → BindsTo s fd ⟨us, []⟩ (ps.zip us)
theorem fns_of {k : Nat} (h : Lev l F P w K mg base k) {X : Cx} (e1 : X.prog = P) (e2 : X.w = w) (e3 : X.K = K) (e4 : X.mg = mg) (e5 : X.base = base) : Fns F (run F.T k) (lv k) X := by
  subst e1 e2 e3 e4 e5
  exact ⟨fun f d e => let ⟨fd, ps, a1, a2, a3, a4, _⟩ := h f d e; ⟨fd, ps, a1, a2, a3, a4⟩, fun f as S e => run_non e k as S, fun f d as S e hl => run_len e k as S hl⟩
theorem src_ok (hT : F.T = tabOf l) (hl : ∀ e ∈ l, okD F e = true) (hf : ∀ e ∈ l, ∃ fd, FunD K e.dd.name e.dd.qual e.dd.params e.dd.body e.dd.scope (e.dd.dvs K) (e.dd.kws K) (He.fAd K e.dd.at_) fd) {f : Fk} {d : Df} (h : F.T f = some d) :
    ∃ e ∈ l, e.at_ = f ∧ e.df = d ∧ e.ps.length = d.np ∧ plainArgs e.dd.params e.ps = true ∧ scopeB d.N e.ps e.dd.scope = true ∧ chkS F d.N e.dd.scope d.body e.dd.body = true ∧ ∃ fd, FunD K e.dd.name e.dd.qual e.dd.params e.dd.body e.dd.scope [] [] (He.fAd K (fkAt f)) fd := by
  rw [hT] at h
  obtain ⟨e, he, ea, ed⟩ := tab_mem h
  have ho := hl e he
  unfold okD at ho
  obtain ⟨ho, h7⟩ := band ho
  obtain ⟨ho, h6⟩ := band ho
  obtain ⟨ho, h5⟩ := band ho
  obtain ⟨ho, h4⟩ := band ho
  obtain ⟨ho, h3⟩ := band ho
  obtain ⟨h1, h2⟩ := band ho
  obtain ⟨fd, Fd⟩ := hf e he
  have h2 := List.isEmpty_iff.mp h2
  have h3 := List.isEmpty_iff.mp h3
  have d1 : e.dd.dvs K = [] := by unfold He.DefD.dvs; rw [h2]; rfl
  have d2 : e.dd.kws K = [] := by unfold He.DefD.kws; rw [h3]; rfl
  rw [d1, d2, dec_of h1, ea] at Fd
  subst ed
  exact ⟨e, he, ea, rfl, dec_of h5, h4, h6, h7, fd, Fd⟩
theorem lev_zero (hT : F.T = tabOf l) (hl : ∀ e ∈ l, okD F e = true) (hf : ∀ e ∈ l, ∃ fd, FunD K e.dd.name e.dd.qual e.dd.params e.dd.body e.dd.scope (e.dd.dvs K) (e.dd.kws K) (He.fAd K e.dd.at_) fd) : Lev l F P w K mg base 0 := fun f d h => by
  obtain ⟨e, he, ea, ed, hn, hp, hs, hc, fd, Fd⟩ := src_ok hT hl hf h
  refine ⟨fd, e.ps, hn, ⟨fun vs H Q E q => q.1.trans hn.symm, fun A outer s H args us vs Q E hr he hb hv q => ?_⟩, Fd.bindsN fun kV doc pm an cdv ct us hl => binds_of hp kV doc pm an cdv ct us hl, Fd.kp, ⟨e, he, ea, rfl⟩, (let ⟨oc, od, _, _, _, _, _, _, _, osl, _, lk, _⟩ := Fd.ex; ⟨oc, od, osl, lk⟩), fun s us hl => Fd.bindsA (fun kV doc pm an cdv ct us hl => binds_of hp kV doc pm an cdv ct us hl) s us hl⟩
  obtain ⟨_, r, S, ws, rel, rv, p⟩ := q
  exact False.elim p
theorem lev_succ (hT : F.T = tabOf l) (hl : ∀ e ∈ l, okD F e = true) (hf : ∀ e ∈ l, ∃ fd, FunD K e.dd.name e.dd.qual e.dd.params e.dd.body e.dd.scope (e.dd.dvs K) (e.dd.kws K) (He.fAd K e.dd.at_) fd) (fa : Facts F K mg) {k : Nat} (ih : Lev l F P w K mg base k) : Lev l F P w K mg base (k + 1) := fun f d h => by
  obtain ⟨e, he, ea, ed, hn, hp, hs, hc, fd, Fd⟩ := src_ok hT hl hf h
  have S0 := scope_of hs
  refine ⟨fd, e.ps, hn, ?_, Fd.bindsN fun kV doc pm an cdv ct us hl => binds_of hp kV doc pm an cdv ct us hl, Fd.kp, ⟨e, he, ea, rfl⟩, (let ⟨oc, od, _, _, _, _, _, _, _, osl, _, lk, _⟩ := Fd.ex; ⟨oc, od, osl, lk⟩), fun s us hl => Fd.bindsA (fun kV doc pm an cdv ct us hl => binds_of hp kV doc pm an cdv ct us hl) s us hl⟩
  refine FunD.ok (k := lv k + 1) Fd S0 (fun vs H Q E q => q.1.trans hn.symm) (fun cdv A outer s H vs Q E hr q => ?_)
  obtain ⟨hvs, r, S, ws, rel, rv, p⟩ := q
  let X : Cx := cxOf (L2.CX P w) P w K mg base d.N e.dd.qual e.dd.scope (He.fAd K (fkAt f)) cdv A outer s H E
  have tk : Takes X (fun cls d _ H => E cls d H) := takes_of rfl rfl rfl rfl
  have ok : OkS F d.N (run F.T k) (lv k) X := ⟨⟨fa, rfl, S0.nd, rfl, hr, fns_of ih rfl rfl rfl rfl rfl⟩, fun _ => rfl, passes_of rfl, rfl, rfl, S0.kind⟩
  have hw : ws.length = d.np := by rw [rv.length]; exact hvs
  refine ⟨tMS K F.cl (fun cls d _ H => E cls d H) (exec (run F.T k) d.body), (sndS_all d.body).pss X _ e.dd.body ok tk hc, r, ws.map some ++ List.replicate (d.N.length - d.np) none, S, rel, ?_, ?_⟩
  · unfold L2.start
    rw [hvs]
    exact RSig.start rv _
  · simp only [run, h, if_pos hw] at p
    cases ev : exec (run F.T k) d.body (ws.map some ++ List.replicate (d.N.length - d.np) none) S with
    | nx w1 S1 => rw [ev] at p; exact fun r' H' s g q sg => p r' H' .non g q .non
    | rt v S1 => rw [ev] at p; exact p
    | ex x w1 S1 => rw [ev] at p; exact fun r' H' d s g q sg xr => p r' H' d g q xr
    | no => rw [ev] at p; exact False.elim p
theorem lev_all (hT : F.T = tabOf l) (hl : ∀ e ∈ l, okD F e = true) (hf : ∀ e ∈ l, ∃ fd, FunD K e.dd.name e.dd.qual e.dd.params e.dd.body e.dd.scope (e.dd.dvs K) (e.dd.kws K) (He.fAd K e.dd.at_) fd) (fa : Facts F K mg) : ∀ k : Nat, Lev l F P w K mg base k
  | 0 => lev_zero hT hl hf
  | k + 1 => lev_succ hT hl hf fa (lev_all hT hl hf fa k)
end
end D
end

section
set_option maxHeartbeats 1000000
/-! A law: its facts, its run, its end. -/
namespace D
open PySem PySem.Spec PyProof.Rows L2

/-! ### what is looked at: no list of the module's -/
def isL (o : Obj) : Bool := match o.cls with
  | .type c => c == "list"
  | _ => false
def cutL (K : PySem.W.Frag) : PySem.W.Frag := K.filter fun p => !(isL p.2)
theorem look_mem' {K : PySem.W.Frag} {a : Addr} {o : Obj} : ∀ {l : PySem.W.Frag}, l.lookup a = some o → (a, o) ∈ l
  | [], h => by cases h
  | p :: l, h => by
    rw [List.lookup_cons] at h
    cases e : (a == p.1) with
    | true =>
      rw [e] at h
      have e1 := beq_iff_eq.mp e
      have e2 : p.2 = o := Option.some.inj h
      rw [e1, ← e2]
      exact List.mem_cons_self
    | false =>
      rw [e] at h
      exact List.mem_cons_of_mem _ (look_mem' (K := K) h)
theorem cut_in {as : List Addr} {h : Heap} : (cutL (He.frG h.get? as)).In h := fun a o e => by
  have m := (List.mem_filter.mp (look_mem' (K := []) e)).1
  unfold He.frG at m
  obtain ⟨b, hb, q⟩ := List.mem_filterMap.mp m
  cases g : h.get? b with
  | none => rw [g] at q; cases q
  | some z =>
    rw [g] at q
    have q : (b, z) = (a, o) := Option.some.inj q
    cases q
    exact g
theorem cut_no {K : PySem.W.Frag} {a : Addr} {o : Obj} (h : (cutL K).lookup a = some o) : o.cls ≠ .type "list" := fun e => by
  have m := (List.mem_filter.mp (look_mem' (K := []) h)).2
  unfold isL at m
  dsimp only at m
  rw [e] at m
  cases m
def obsN (n : Nat) (fa : List He.Fa) (fn : List He.DefD) (g : Addr → Option Obj) : He.AlD := He.obsD fa fn (cutL (He.frG g (He.asD g n)))
def hookN (n : Nat) (fa : List He.Fa) (fn : List He.DefD) : PySem.W.Hook where
  α := He.AlD
  obs := fun s => obsN n fa fn s.heap.get?
  val := fun _ => He.valD fn
  says := fun _ h => ∃ K : PySem.W.Frag, K.In h ∧ He.SaysD fa fn K ∧ ∀ a o, K.lookup a = some o → o.cls ≠ .type "list"
  of := fun _ _ e => ⟨_, cut_in, e, fun _ _ => cut_no⟩
  keeps := fun _ _ _ ⟨K, hK, c⟩ k => ⟨K, PySem.W.Frag.In.keeps hK k, c⟩
theorem obsN_eq {n : Nat} {fa : List He.Fa} {fn : List He.DefD} {g : Addr → Option Obj} {s : Shared} (h : ∀ a, g a = s.heap.get? a) : obsN n fa fn g = (hookN n fa fn).obs s := by
  have e : g = s.heap.get? := funext h
  rw [e] <;> rfl
/-! ### the facts -/
def faOf (F : Fx) : List He.Fa := F.ic.map (fun p => .int p.1.str p.2) ++ (F.wc.map (fun p => .str p.1.str p.2.str) ++ (F.free.map .free ++ ((F.fns.flatMap fun f => match f with
  | .fn f => [.glo f.str]
  | .me c m => [.meth c.str m.str]) ++ ((F.cl.flatMap fun c => .glo c.str :: .cls c.str :: (F.fields.map fun f => .noat c.str f.str)) ++ ((F.cl.filter fun c => F.fns.contains (.me c .d_init)).map (fun c => .mkr c.str) ++
  F.exc.flatMap fun c => [.glo c.str, .exc c.str, .exm c.str Nm.n_DrainError.str true])))))
theorem facts_of {F : Fx} {l : List Src} {K : PySem.W.Frag} {h : Heap} {mg : Str → Option Value} (X : K.In h) (G : h.Ns mainGlobals mg) (hT : F.T = tabOf l) (hn : F.fns = l.map (·.at_)) (hf : ∀ e ∈ l, ∃ fd, FunD K e.dd.name e.dd.qual e.dd.params e.dd.body e.dd.scope (e.dd.dvs K) (e.dd.kws K) (He.fAd K e.dd.at_) fd)
    (ha : ∀ e ∈ l, e.dd.at_ = fkAt e.at_) (c : ∀ f ∈ faOf F, f.ok K = true) : Facts F K mg := by
  have m1 : ∀ {f}, f ∈ F.ic.map (fun p => He.Fa.int p.1.str p.2) → f ∈ faOf F := fun h => List.mem_append_left _ h
  have m2 : ∀ {f}, f ∈ F.wc.map (fun p => He.Fa.str p.1.str p.2.str) → f ∈ faOf F := fun h => List.mem_append_right _ (List.mem_append_left _ h)
  have m3 : ∀ {f}, f ∈ F.free.map He.Fa.free → f ∈ faOf F := fun h => List.mem_append_right _ (List.mem_append_right _ (List.mem_append_left _ h))
  have m4 : ∀ {f}, f ∈ (F.fns.flatMap fun f => match f with
      | .fn f => [He.Fa.glo f.str]
      | .me c m => [He.Fa.meth c.str m.str]) → f ∈ faOf F := fun h => List.mem_append_right _ (List.mem_append_right _ (List.mem_append_right _ (List.mem_append_left _ h)))
  have m5 : ∀ {f}, f ∈ (F.cl.flatMap fun c => He.Fa.glo c.str :: He.Fa.cls c.str :: (F.fields.map fun f => He.Fa.noat c.str f.str)) → f ∈ faOf F := fun h => List.mem_append_right _ (List.mem_append_right _ (List.mem_append_right _ (List.mem_append_right _ (List.mem_append_left _ h))))
  have m6 : ∀ {f}, f ∈ (F.cl.filter fun c => F.fns.contains (.me c .d_init)).map (fun c => He.Fa.mkr c.str) → f ∈ faOf F := fun h => List.mem_append_right _ (List.mem_append_right _ (List.mem_append_right _ (List.mem_append_right _ (List.mem_append_right _ (List.mem_append_left _ h)))))
  have m7 : ∀ {f}, f ∈ (F.exc.flatMap fun c => [He.Fa.glo c.str, He.Fa.exc c.str, He.Fa.exm c.str Nm.n_DrainError.str true]) → f ∈ faOf F := fun h => List.mem_append_right _ (List.mem_append_right _ (List.mem_append_right _ (List.mem_append_right _ (List.mem_append_right _ (List.mem_append_right _ h)))))
  refine ⟨fun p hp => He.int_ok X G (c _ (m1 (List.mem_map.mpr ⟨p, hp, rfl⟩))), fun p hp => He.str_ok X G (c _ (m2 (List.mem_map.mpr ⟨p, hp, rfl⟩))), fun x hx => He.free_ok X G (c _ (m3 (List.mem_map.mpr ⟨x, hx, rfl⟩))), fun f hf => ?_, fun k hk => ⟨?_, ?_⟩, fun k hk f hf => ?_, fun k m hf => ?_, fun k hk hf => ?_, fun k hk => ?_, fun k hk => ?_, fun f hf => ?_, fun f hf => ?_⟩
  · exact He.glo_ok X G (c _ (m4 (List.mem_flatMap.mpr ⟨_, hf, List.mem_singleton.mpr rfl⟩)))
  · exact He.glo_ok X G (c _ (m5 (List.mem_flatMap.mpr ⟨k, hk, List.mem_cons_self⟩)))
  · exact He.cls_ok (c _ (m5 (List.mem_flatMap.mpr ⟨k, hk, List.mem_cons_of_mem _ List.mem_cons_self⟩)))
  · exact He.noat_ok (c _ (m5 (List.mem_flatMap.mpr ⟨k, hk, List.mem_cons_of_mem _ (List.mem_cons_of_mem _ (List.mem_map.mpr ⟨f, hf, rfl⟩))⟩)))
  · exact He.meth_ok (c _ (m4 (List.mem_flatMap.mpr ⟨_, hf, List.mem_singleton.mpr rfl⟩)))
  · exact He.mkr_ok (c _ (m6 (List.mem_map.mpr ⟨k, List.mem_filter.mpr ⟨hk, List.contains_iff_mem.mpr hf⟩, rfl⟩)))
  · have z := He.exc_ok (c _ (m7 (List.mem_flatMap.mpr ⟨k, hk, List.mem_cons_of_mem _ List.mem_cons_self⟩)))
    exact ⟨He.glo_ok X G (c _ (m7 (List.mem_flatMap.mpr ⟨k, hk, List.mem_cons_self⟩))), z.1, z.2.1, z.2.2.1, z.2.2.2⟩
  · exact He.exm_ok (c _ (m7 (List.mem_flatMap.mpr ⟨k, hk, List.mem_cons_of_mem _ (List.mem_cons_of_mem _ List.mem_cons_self)⟩)))
  · rw [hn]
    cases q : F.T f with
    | none => exact absurd q hf
    | some d =>
      rw [hT] at q
      obtain ⟨e, he, ea, _⟩ := tab_mem q
      exact List.mem_map.mpr ⟨e, he, ea⟩
  · rw [hn] at hf
    obtain ⟨e, he, ea⟩ := List.mem_map.mp hf
    obtain ⟨fd, Fd⟩ := ‹∀ e ∈ l, ∃ fd, FunD K e.dd.name e.dd.qual e.dd.params e.dd.body e.dd.scope (e.dd.dvs K) (e.dd.kws K) (He.fAd K e.dd.at_) fd› e he
    have := Fd.kp
    rw [ha e he, ea] at this
    exact this
/-! ### the end -/
/-- the store at the law's entry: the script -/
def S0 (ns : List Int) : Sto := ⟨1, fun n => if n = 0 then some (.frz (ns.map .int)) else none⟩
def spL (K : PySem.W.Frag) (m : Nat) : Sp := fun vs H Q _ => ∃ (a : Addr) (ns : List Int), vs = [.ref a] ∧ ns.length ≤ m ∧ (∃ o, H a = some (.frz o (.lst (ns.map V.int)))) ∧ ∀ H', Q (.bl true) H'
theorem rel_start {K : PySem.W.Frag} {cl : List Nm} {H : Hp} {a : Addr} {ns : List Int} {o : Obj} (h : H a = some (.frz o (.lst (ns.map V.int)))) : Rel K cl (fun n => if n = 0 then some a else none) (S0 ns) H := by
  refine ⟨fun n b e => ?_, fun n hn => ?_, fun n m b e1 e2 => ?_, fun n hn => ?_⟩
  · split at e
    · rename_i z; subst z; exact Nat.zero_lt_one
    · cases e
  · have z : n = 0 := Nat.lt_one_iff.mp hn
    subst z
    exact ⟨a, _, _, rfl, rfl, h, .frz (rvs_ints ns)⟩
  · split at e1
    · rename_i z; subst z
      split at e2
      · rename_i z; subst z; rfl
      · cases e2
    · cases e1
  · have z : n ≠ 0 := fun z => by subst z; exact Nat.not_succ_le_zero 0 hn
    show (if n = 0 then _ else none) = none
    rw [if_neg z]
theorem cx_no {P : Program} {w : World} {outer : List PySem.Env} {H : Hp} {s s' : Shared} {e : Value} (h : L2.CX P w outer H s (fun _ _ _ => False) e s') : False := by
  obtain ⟨_, _, _, _, _, _, _, _, _, _, _, _, z⟩ := h
  exact z
/-- a promise that lets nothing out -/
theorem fn_calm {P : Program} {w : World} {K : PySem.W.Frag} {mg : Str → Option Value} {base : Heap} {k : Nat} {f : Addr} {fd : FuncData} {ps : List Str} {sp sp' : Sp} (h : FnOk P w K mg base (L2.CX P w) k f fd ps sp) (i : ∀ vs H Q E, sp' vs H Q E → sp vs H Q fun _ _ _ => False) : FnOk P w K mg base L2.CX0 k f fd ps sp' :=
  ⟨fun vs H Q E q => h.len vs H Q _ (i vs H Q E q), fun A outer s H args us vs Q E hr he hb hv q => codeAny_mono (h.run A outer s H args us vs Q (fun _ _ _ => False) hr he hb hv (i vs H Q E q)) fun r s' z => by
    cases r with
    | ok v => cases v <;> exact z
    | error e => exact cx_no z⟩
structure LawOk (F : Fx) (l : List Src) (m k : Nat) (x : Str) : Prop where
  tab : F.T = tabOf l
  fns : F.fns = l.map (·.at_)
  ok : (l.all (okD F)) = true
  par : (l.all fun e => !decide (e.at_ = .fn .n_law) || decide (e.ps = [x])) = true
  run : ∀ ns : List Int, ns.length ≤ m → ∃ S, run F.T k (.fn .n_law) [.ref 0] (S0 ns) = .ok (.bl true) S
theorem law_fn {F : Fx} {l : List Src} {m k : Nat} {x : Str} (L : LawOk F l m k x) {P : Program} {w : World} {K : PySem.W.Frag} {h : Heap} {mg : Str → Option Value} (X : K.In h) (G : h.Ns mainGlobals mg) (c : He.SaysD (faOf F) (l.map (·.dd)) K) {fa : Addr} (hfa : mg Nm.n_law.str = some (.ref fa)) :
    ∃ fd : FuncData, (∀ (s : Shared) (v : Value), BindsTo s fd ⟨[v], []⟩ [(x, v)]) ∧ ∀ base : Heap, FnOk P w K mg base L2.CX0 (lv k) fa fd [x] (spL K m) := by
  have hl : ∀ e ∈ l, okD F e = true := List.all_eq_true.mp L.ok
  have hf : ∀ e ∈ l, ∃ fd, FunD K e.dd.name e.dd.qual e.dd.params e.dd.body e.dd.scope (e.dd.dvs K) (e.dd.kws K) (He.fAd K e.dd.at_) fd := fun e he => by
    obtain ⟨i, hi⟩ := List.getElem?_of_mem he
    exact c.def_ i (d := e.dd) (by rw [List.getElem?_map, hi]; rfl)
  have ha : ∀ e ∈ l, e.dd.at_ = fkAt e.at_ := fun e he => by
    have z := hl e he
    unfold okD at z
    exact dec_of (band (band (band (band (band (band z).1).1).1).1).1).1
  have fc : ∀ f ∈ faOf F, f.ok K = true := fun f hf => by
    obtain ⟨i, hi⟩ := List.getElem?_of_mem hf
    exact c.fact i hi
  have fx := facts_of X G L.tab L.fns hf ha fc
  obtain ⟨S', e0⟩ := L.run [] (Nat.zero_le _)
  cases hT : F.T (.fn .n_law) with
  | none => rw [run_non hT] at e0; cases e0
  | some d =>
    have hd : d.np = 1 := by
      by_cases z : d.np = 1
      · exact z
      · have := run_len hT k [.ref 0] (S0 []) (fun q => z q.symm)
        rw [this] at e0
        cases e0
    have one : ∀ base : Heap, ∃ fd : FuncData, (∃ oc od osl, K.lookup (He.fAd K (fkAt (.fn .n_law))) = some ⟨oc, od, .func fd, osl⟩) ∧ (∀ (s : Shared) (v : Value), BindsTo s fd ⟨[v], []⟩ [(x, v)]) ∧ FnOk P w K mg base L2.CX0 (lv k) fa fd [x] (spL K m) := fun base => by
      obtain ⟨fd, ps, l1, FO, _, _, ⟨e, he, ea, ep⟩, hk, hb⟩ := lev_all (P := P) (w := w) (mg := mg) (base := base) L.tab hl hf fx k (.fn .n_law) d hT
      have hx : ps = [x] := by
        have z := List.all_eq_true.mp L.par e he
        rw [ea] at z
        simp only [decide_true, Bool.not_true, Bool.false_or] at z
        rw [← ep]
        exact dec_of z
      subst hx
      have eg := hfa.symm.trans (fx.fn .n_law (fx.tab _ (by rw [hT]; simp)))
      cases eg
      refine ⟨fd, hk, fun s v => hb s [v] rfl, fn_calm FO fun vs H Q E ⟨a, ns, e1, hm, ⟨o, ho⟩, hQ⟩ => ?_⟩
      subst e1
      obtain ⟨S2, e2⟩ := L.run ns hm
      refine ⟨hd.symm, _, S0 ns, [.ref 0], rel_start ho, .cons (.ref rfl) .nil, ?_⟩
      rw [e2]
      intro r' H' u g q rv
      cases rv
      exact hQ H'
    obtain ⟨fd, ⟨oc, od, osl, hk⟩, hb, FO⟩ := one h
    refine ⟨fd, hb, fun base => ?_⟩
    obtain ⟨fd2, ⟨oc2, od2, osl2, hk2⟩, _, FO2⟩ := one base
    rw [hk] at hk2
    cases hk2
    exact FO2
theorem law_end {F : Fx} {l : List Src} {m k : Nat} {x : Str} (L : LawOk F l m k x) {P : Program} {w : World} {h : Heap} {mg : Str → Option Value} {fa : Addr} (Y : (hookN 6 (faOf F) (l.map (·.dd))).says w h) (G : h.Ns mainGlobals mg) (hfa : mg Nm.n_law.str = some (.ref fa)) :
    ∃ (K : PySem.W.Frag) (fd : FuncData) (sp : Sp), K.In h ∧ (∀ (s : Shared) (u : Value), BindsTo s fd ⟨[u], []⟩ [(x, u)]) ∧
      (∀ (H : Hp) (a : Addr) (ns : List Int), ns.length ≤ m → Only H → SqL K H a (ns.map V.int) → sp [.ref a] H (fun v _ => v = .bl true) fun _ _ _ => False) ∧
      ∀ base : Heap, K.In base → base.Ns mainGlobals mg → FnOk P w K mg base L2.CX0 (lv k) fa fd [x] sp := by
  obtain ⟨K, KX, c, nol⟩ := Y
  obtain ⟨fd, hb, hF⟩ := law_fn (P := P) (w := w) L KX G c hfa
  refine ⟨K, fd, spL K m, KX, hb, fun H a ns hl hO hS => ⟨a, ns, rfl, hl, ?_, fun _ => rfl⟩, fun base _ _ => hF base⟩
  rcases hS with (h1 | h1) | ⟨o, its, n, h1, h2, _⟩
  · rcases hO a with z | ⟨o, xs, z⟩
    · rw [z] at h1; cases h1
    · rw [z] at h1; cases h1
  · exact h1
  · exact absurd h2 (nol a o h1)
end D
end

section
/-! The defs of the program and of the laws. -/
namespace D
open PySem
def b_is_number : Df := ⟨3, ["part", "low", "high"], (.cons (.ret (.and (.isi (.var 0) .int) (.and (.nt (.isi (.var 0) .bool)) (.chain .le .le (.var 1) (.var 0) (.var 2)))))
  .nil)⟩
def b_need_houses : Df := ⟨1, ["houses", "good", "one", "k"], (.cons (.set 1 (.and (.chain .le .le (.int 1) (.bi .len (.cons (.var 0) .nil)) (.gi .n_MOST_HOUSES 6)) (.cmp .eq (.lc [2] true (.var 0) (.var 2) (.nt (.call .n_is_number (.cons (.var 2) (.cons (.int 0) (.cons (.gi .n_MOST_HOUSE 19) .nil)))))) (.lst .nil))))
  (.cons (.ite (.or (.nt (.var 1)) (.cmp .ne (.lc [3] true (.rng2 (.int 1) (.bi .len (.cons (.var 0) .nil))) (.var 3) (.cmp .ge (.ix (.var 0) (.bin .sub (.var 3) (.int 1))) (.ix (.var 0) (.var 3)))) (.lst .nil)))
  (.cons (.rse .n_BadHouse)
  .nil)
  .nil)
  .nil))⟩
def b_need_owners : Df := ⟨1, ["owners", "one"], (.cons (.ite (.or (.nt (.isi (.var 0) .tuple)) (.cmp .ne (.bi .len (.cons (.var 0) .nil)) (.gi .n_SLOTS 12)))
  (.cons (.rse .n_BadEdition)
  .nil)
  .nil)
  (.cons (.ite (.cmp .ne (.lc [1] true (.var 0) (.var 1) (.nt (.call .n_is_number (.cons (.var 1) (.cons (.int 0) (.cons (.gi .n_MOST_HOUSE 19) .nil)))))) (.lst .nil))
  (.cons (.rse .n_BadEdition)
  .nil)
  .nil)
  .nil))⟩
def b_most_kept : Df := ⟨3, ["rest", "houses", "used", "share", "over", "forced", "gains", "kept", "house", "mine", "left", "one"], (.cons (.par [3, 4] (.cons (.bin .div (.gi .n_SLOTS 12) (.bi .len (.cons (.var 1) .nil))) (.cons (.bin .mod (.gi .n_SLOTS 12) (.bi .len (.cons (.var 1) .nil))) .nil)))
  (.cons (.set 5 (.int 0))
  (.cons (.set 6 (.int 0))
  (.cons (.set 7 (.int 0))
  (.cons (.for_ [8] true (.var 1)
  (.cons (.set 9 (.bi .len (.cons (.lc [11] true (.var 0) (.var 11) (.cmp .eq (.var 11) (.var 8))) .nil)))
  (.cons (.set 10 (.bin .sub (.var 3) (.ix (.var 2) (.var 8))))
  (.cons (.ite (.cmp .lt (.var 10) (.int 0))
  (.cons (.set 5 (.bin .add (.var 5) (.int 1)))
  (.cons (.ite (.cmp .lt (.var 10) (.bin .sub (.int 0) (.int 1)))
  (.cons (.ret .non)
  .nil)
  .nil)
  .nil))
  (.cons (.set 7 (.bin .add (.var 7) (.bi .min2 (.cons (.var 9) (.cons (.var 10) .nil)))))
  (.cons (.set 6 (.bin .add (.var 6) (.bi .int (.cons (.cmp .gt (.var 9) (.var 10)) .nil))))
  .nil)))
  .nil))))
  (.cons (.ret (.ife (.cmp .gt (.var 5) (.var 4)) .non (.bin .add (.var 7) (.bi .min2 (.cons (.var 6) (.cons (.bin .sub (.var 4) (.var 5)) .nil))))))
  .nil))))))⟩
def b_shared_by : Df := ⟨2, ["owners", "houses", "used", "best", "kept", "found", "slot", "house", "rest", "stays"], (.cons (.set 2 (.bi .dict (.cons (.lc [7] true (.var 1) (.tup (.cons (.var 7) (.cons (.int 0) .nil))) .no) .nil)))
  (.cons (.set 3 (.call .n_most_kept (.cons (.var 0) (.cons (.var 1) (.cons (.var 2) .nil)))))
  (.cons (.set 4 (.int 0))
  (.cons (.set 5 (.lst .nil))
  (.cons (.for_ [6] true (.rng1 (.gi .n_SLOTS 12))
  (.cons (.for_ [7] true (.var 1)
  (.cons (.ite (.cmp .eq (.bi .len (.cons (.var 5) .nil)) (.var 6))
  (.cons (.setI (.var 2) (.var 7) (.bin .add (.ix (.var 2) (.var 7)) (.int 1)))
  (.cons (.set 8 (.call .n_most_kept (.cons (.sl (.var 0) (.bin .add (.var 6) (.int 1)) .no) (.cons (.var 1) (.cons (.var 2) .nil)))))
  (.cons (.set 9 (.bi .int (.cons (.cmp .eq (.ix (.var 0) (.var 6)) (.var 7)) .nil)))
  (.cons (.ite (.and (.cmp .isn (.var 8) .non) (.cmp .eq (.bin .add (.bin .add (.var 4) (.var 9)) (.var 8)) (.var 3)))
  (.cons (.ex (.bm .append (.var 5) (.cons (.var 7) .nil)))
  (.cons (.set 4 (.bin .add (.var 4) (.var 9)))
  .nil))
  (.cons (.setI (.var 2) (.var 7) (.bin .sub (.ix (.var 2) (.var 7)) (.int 1)))
  .nil))
  .nil))))
  .nil)
  .nil))
  .nil))
  (.cons (.ret (.bi .tuple (.cons (.var 5) .nil)))
  .nil))))))⟩
def b_shared : Df := ⟨2, ["owners", "houses"], (.cons (.ex (.call .n_need_owners (.cons (.var 0) .nil)))
  (.cons (.ex (.call .n_need_houses (.cons (.var 1) .nil)))
  (.cons (.ret (.call .n_shared_by (.cons (.var 0) (.cons (.bi .list (.cons (.var 1) .nil)) .nil))))
  .nil)))⟩
def b_law_begun : Df := ⟨1, ["_law_script", "_law_stirred", "_law_cell"], (.cons (.set 1 (.int 0))
  (.cons (.for_ [2] true (.var 0)
  (.cons (.set 1 (.bin .mod (.bin .add (.bin .add (.bin .mul (.var 1) (.int 48271)) (.bin .mul (.var 2) (.int 69621))) (.int 11)) (.int 2147483647)))
  .nil))
  (.cons (.ret (.lst (.cons (.bi .list (.cons (.var 0) .nil)) (.cons (.bin .mul (.var 1) (.bi .int (.cons (.cmp .gt (.bi .len (.cons (.var 0) .nil)) (.int 2)) .nil))) .nil))))
  .nil)))⟩
def b_law_take : Df := ⟨2, ["_law_box", "_law_many", "_law_number"], (.cons (.ite (.cmp .eq (.ix (.var 0) (.int 0)) (.lst .nil))
  (.cons (.setI (.var 0) (.int 1) (.bin .mod (.bin .mul (.ix (.var 0) (.int 1)) (.int 48271)) (.int 2147483647)))
  (.cons (.ret (.bin .mod (.bin .div (.ix (.var 0) (.int 1)) (.int 7)) (.var 1)))
  .nil))
  .nil)
  (.cons (.set 2 (.ix (.ix (.var 0) (.int 0)) (.int 0)))
  (.cons (.setI (.ix (.var 0) (.int 0)) (.int 0) (.bin .div (.var 2) (.var 1)))
  (.cons (.ite (.or (.cmp .eq (.ix (.ix (.var 0) (.int 0)) (.int 0)) (.int 0)) (.cmp .eq (.ix (.ix (.var 0) (.int 0)) (.int 0)) (.neg (.int 1))))
  (.cons (.ex (.bm .pop (.ix (.var 0) (.int 0)) (.cons (.int 0) .nil)))
  .nil)
  .nil)
  (.cons (.ret (.bin .mod (.var 2) (.var 1)))
  .nil)))))⟩
def b_law_alike : Df := ⟨2, ["_law_found", "_law_due", "_law_k"], (.cons (.ite (.cmp .is (.var 1) .non)
  (.cons (.ret (.cmp .is (.var 0) .non))
  .nil)
  .nil)
  (.cons (.ite (.isi (.var 1) .bool)
  (.cons (.ret (.and (.isi (.var 0) .bool) (.cmp .eq (.var 0) (.var 1))))
  .nil)
  .nil)
  (.cons (.ite (.isi (.var 1) .int)
  (.cons (.ret (.and (.isi (.var 0) .int) (.and (.nt (.isi (.var 0) .bool)) (.cmp .eq (.var 0) (.var 1)))))
  .nil)
  .nil)
  (.cons (.ite (.isi (.var 1) .str)
  (.cons (.ret (.and (.isi (.var 0) .str) (.cmp .eq (.var 0) (.var 1))))
  .nil)
  .nil)
  (.cons (.ite (.or (.cmp .ne (.isi (.var 1) .tuple) (.isi (.var 0) .tuple)) (.cmp .ne (.isi (.var 1) .list) (.isi (.var 0) .list)))
  (.cons (.ret (.bl false))
  .nil)
  .nil)
  (.cons (.ite (.cmp .ne (.bi .len (.cons (.var 0) .nil)) (.bi .len (.cons (.var 1) .nil)))
  (.cons (.ret (.bl false))
  .nil)
  .nil)
  (.cons (.for_ [2] true (.rng1 (.bi .len (.cons (.var 1) .nil)))
  (.cons (.ite (.nt (.call .n_law_alike (.cons (.ix (.var 0) (.var 2)) (.cons (.ix (.var 1) (.var 2)) .nil))))
  (.cons (.ret (.bl false))
  .nil)
  .nil)
  .nil))
  (.cons (.ret (.bl true))
  .nil))))))))⟩
def b_law_moved : Df := ⟨2, ["_law_owners", "_law_others", "_law_k"], (.cons (.ret (.bi .len (.cons (.lc [2] true (.rng1 (.int 12)) (.var 2) (.cmp .ne (.ix (.var 0) (.var 2)) (.ix (.var 1) (.var 2)))) .nil)))
  .nil)⟩
def b_law_choices : Df := ⟨2, ["_law_houses", "_law_many", "_law_found", "_law_k", "_law_rest"], (.cons (.ite (.cmp .eq (.var 1) (.int 0))
  (.cons (.ret (.lst (.cons (.lst .nil) .nil)))
  .nil)
  .nil)
  (.cons (.set 2 (.lst .nil))
  (.cons (.for_ [3] true (.rng1 (.bi .len (.cons (.var 0) .nil)))
  (.cons (.ex (.bm .extend (.var 2) (.cons (.lc [4] true (.call .n_law_choices (.cons (.sl (.var 0) (.bin .add (.var 3) (.int 1)) .no) (.cons (.bin .sub (.var 1) (.int 1)) .nil))) (.bin .add (.lst (.cons (.ix (.var 0) (.var 3)) .nil)) (.var 4)) .no) .nil)))
  .nil))
  (.cons (.ret (.var 2))
  .nil))))⟩
def b_law_stay : Df := ⟨2, ["_law_owners", "_law_houses", "_law_share", "_law_found", "_law_more", "_law_house"], (.cons (.set 2 (.bin .div (.int 12) (.bi .len (.cons (.var 1) .nil))))
  (.cons (.set 3 (.int 0))
  (.cons (.for_ [4] true (.call .n_law_choices (.cons (.var 1) (.cons (.bin .mod (.int 12) (.bi .len (.cons (.var 1) .nil))) .nil)))
  (.cons (.set 3 (.bi .max2 (.cons (.var 3) (.cons (.bi .sum (.cons (.lc [5] true (.var 1) (.bi .min2 (.cons (.bm .count (.var 0) (.cons (.var 5) .nil)) (.cons (.bin .add (.var 2) (.bi .int (.cons (.cmp .inn (.var 5) (.var 4)) .nil))) .nil))) .no) .nil)) .nil))))
  .nil))
  (.cons (.ret (.var 3))
  .nil))))⟩
def b_law_shared : Df := ⟨2, ["_law_owners", "_law_houses", "_law_best", "_law_share", "_law_found", "_law_more", "_law_left", "_law_house"], (.cons (.set 2 (.call .n_law_stay (.cons (.var 0) (.cons (.var 1) .nil))))
  (.cons (.set 3 (.bin .div (.int 12) (.bi .len (.cons (.var 1) .nil))))
  (.cons (.set 4 (.lst .nil))
  (.cons (.for_ [5] true (.call .n_law_choices (.cons (.var 1) (.cons (.bin .mod (.int 12) (.bi .len (.cons (.var 1) .nil))) .nil)))
  (.cons (.set 6 (.bi .dict (.cons (.lc [7] true (.var 1) (.tup (.cons (.var 7) (.cons (.bin .add (.var 3) (.bi .int (.cons (.cmp .inn (.var 7) (.var 5)) .nil))) .nil))) .no) .nil)))
  (.cons (.ite (.cmp .eq (.bi .sum (.cons (.lc [7] true (.var 1) (.bi .min2 (.cons (.bm .count (.var 0) (.cons (.var 7) .nil)) (.cons (.ix (.var 6) (.var 7)) .nil))) .no) .nil)) (.var 2))
  (.cons (.ex (.bm .append (.var 4) (.cons (.call .n_law_first (.cons (.var 0) (.cons (.var 1) (.cons (.var 6) .nil)))) .nil)))
  .nil)
  .nil)
  .nil)))
  (.cons (.ret (.bi .min1 (.cons (.var 4) .nil)))
  .nil)))))⟩
def b_law_first : Df := ⟨3, ["_law_owners", "_law_houses", "_law_left", "_law_found", "_law_k", "_law_rest", "_law_here", "_law_house", "_law_later", "_law_one"], (.cons (.set 2 (.bi .dict (.cons (.var 2) .nil)))
  (.cons (.set 3 (.tup .nil))
  (.cons (.for_ [4] true (.rng1 (.int 12))
  (.cons (.set 5 (.sl (.var 0) (.bin .add (.var 4) (.int 1)) .no))
  (.cons (.set 6 (.bi .sum (.cons (.lc [7] true (.var 1) (.bi .min2 (.cons (.bm .count (.sl (.var 0) (.var 4) .no) (.cons (.var 7) .nil)) (.cons (.ix (.var 2) (.var 7)) .nil))) .no) .nil)))
  (.cons (.for_ [7] true (.var 1)
  (.cons (.ite (.and (.cmp .eq (.bi .len (.cons (.var 3) .nil)) (.var 4)) (.cmp .gt (.ix (.var 2) (.var 7)) (.int 0)))
  (.cons (.setI (.var 2) (.var 7) (.bin .sub (.ix (.var 2) (.var 7)) (.int 1)))
  (.cons (.set 8 (.bi .sum (.cons (.lc [9] true (.var 1) (.bi .min2 (.cons (.bm .count (.var 5) (.cons (.var 9) .nil)) (.cons (.ix (.var 2) (.var 9)) .nil))) .no) .nil)))
  (.cons (.ite (.cmp .eq (.bin .add (.var 8) (.bi .int (.cons (.cmp .eq (.ix (.var 0) (.var 4)) (.var 7)) .nil))) (.var 6))
  (.cons (.set 3 (.bin .add (.var 3) (.tup (.cons (.var 7) .nil))))
  .nil)
  (.cons (.setI (.var 2) (.var 7) (.bin .add (.ix (.var 2) (.var 7)) (.int 1)))
  .nil))
  .nil)))
  .nil)
  .nil))
  .nil))))
  (.cons (.ret (.var 3))
  .nil))))⟩
def b_law : Df := ⟨1, ["_law_script", "_law_box", "_law_turn", "_law_left", "_law_some", "_law_most", "_law_owners", "_law_again", "_law_at", "_law_houses", "_law_handed", "_law_found", "_law_k"], (.cons (.set 1 (.call .n_law_begun (.cons (.var 0) .nil)))
  (.cons (.for_ [2] true (.rng1 (.int 4))
  (.cons (.set 3 (.bi .lrng1 (.cons (.int 20) .nil)))
  (.cons (.set 4 (.lc [12] true (.rng1 (.int 8)) (.bm .pop (.var 3) (.cons (.call .n_law_take (.cons (.var 1) (.cons (.bi .len (.cons (.var 3) .nil)) .nil))) .nil)) .no))
  (.cons (.set 5 (.ix (.lst (.cons (.int 1) (.cons (.int 2) (.cons (.int 6) .nil)))) (.call .n_law_take (.cons (.var 1) (.cons (.int 3) .nil)))))
  (.cons (.set 6 (.bi .tuple (.cons (.lc [12] true (.rng1 (.int 12)) (.ix (.var 4) (.call .n_law_take (.cons (.var 1) (.cons (.var 5) .nil)))) .no) .nil)))
  (.cons (.for_ [7] true (.rng1 (.bin .add (.int 1) (.call .n_law_take (.cons (.var 1) (.cons (.int 3) .nil)))))
  (.cons (.set 8 (.call .n_law_take (.cons (.var 1) (.cons (.int 4) .nil))))
  (.cons (.set 9 (.bi .sorted (.cons (.sl (.var 4) (.var 8) (.bin .add (.bin .add (.var 8) (.int 1)) (.call .n_law_take (.cons (.var 1) (.cons (.bi .min2 (.cons (.int 6) (.cons (.bin .sub (.int 8) (.var 8)) .nil))) .nil))))) .nil)))
  (.cons (.set 10 (.bi .list (.cons (.var 9) .nil)))
  (.cons (.set 11 (.call .n_shared (.cons (.var 6) (.cons (.var 10) .nil))))
  (.cons (.ite (.or (.nt (.call .n_law_alike (.cons (.var 11) (.cons (.call .n_law_shared (.cons (.var 6) (.cons (.var 9) .nil))) .nil)))) (.cmp .ne (.var 10) (.var 9)))
  (.cons (.ret (.bl false))
  .nil)
  .nil)
  (.cons (.ex (.bm .clear (.var 10) .nil))
  (.cons (.ite (.nt (.call .n_law_alike (.cons (.call .n_shared (.cons (.var 6) (.cons (.var 9) .nil))) (.cons (.var 11) .nil))))
  (.cons (.ret (.bl false))
  .nil)
  .nil)
  (.cons (.set 6 (.var 11))
  .nil)))))))))
  .nil))))))
  (.cons (.ret (.bl true))
  .nil)))⟩
def b_law' : Df := ⟨1, ["_law_script", "_law_box", "_law_free", "_law_houses", "_law_owners", "_law_turn", "_law_found", "_law_counts", "_law_moved_here", "_law_again", "_law_other", "_law_k", "_law_house"], (.cons (.set 1 (.call .n_law_begun (.cons (.var 0) .nil)))
  (.cons (.set 2 (.bi .lrng1 (.cons (.int 20) .nil)))
  (.cons (.set 3 (.lst (.cons (.bm .pop (.var 2) (.cons (.call .n_law_take (.cons (.var 1) (.cons (.bi .len (.cons (.var 2) .nil)) .nil))) .nil)) .nil)))
  (.cons (.set 4 (.bi .tuple (.cons (.lc [11] true (.rng1 (.int 12)) (.ix (.var 2) (.call .n_law_take (.cons (.var 1) (.cons (.int 3) .nil)))) .no) .nil)))
  (.cons (.for_ [5] true (.rng1 (.bin .add (.int 1) (.call .n_law_take (.cons (.var 1) (.cons (.int 8) .nil)))))
  (.cons (.ite (.and (.cmp .lt (.bi .len (.cons (.var 3) .nil)) (.int 6)) (.and (.cmp .eq (.call .n_law_take (.cons (.var 1) (.cons (.int 2) .nil))) (.int 0)) (.cmp .ne (.var 2) (.lst .nil))))
  (.cons (.set 3 (.bi .sorted (.cons (.bin .add (.var 3) (.lst (.cons (.bm .pop (.var 2) (.cons (.call .n_law_take (.cons (.var 1) (.cons (.bi .len (.cons (.var 2) .nil)) .nil))) .nil)) .nil))) .nil)))
  .nil)
  (.cons (.ite (.cmp .gt (.bi .len (.cons (.var 3) .nil)) (.int 1))
  (.cons (.ex (.bm .pop (.var 3) (.cons (.call .n_law_take (.cons (.var 1) (.cons (.bi .len (.cons (.var 3) .nil)) .nil))) .nil)))
  .nil)
  .nil)
  .nil))
  (.cons (.set 6 (.call .n_shared (.cons (.var 4) (.cons (.var 3) .nil))))
  (.cons (.set 7 (.lc [12] true (.var 3) (.bm .count (.var 6) (.cons (.var 12) .nil)) .no))
  (.cons (.ite (.or (.cmp .ne (.bi .sum (.cons (.var 7) .nil)) (.int 12)) (.or (.cmp .gt (.bin .sub (.bi .max1 (.cons (.var 7) .nil)) (.bi .min1 (.cons (.var 7) .nil))) (.int 1)) (.cmp .ne (.call .n_shared (.cons (.var 6) (.cons (.var 3) .nil))) (.var 6))))
  (.cons (.ret (.bl false))
  .nil)
  .nil)
  (.cons (.set 8 (.call .n_law_moved (.cons (.var 4) (.cons (.var 6) .nil))))
  (.cons (.for_ [9] true (.rng1 (.int 6))
  (.cons (.set 10 (.call .n_law_even (.cons (.var 1) (.cons (.var 3) (.cons (.var 4) .nil)))))
  (.cons (.ite (.cmp .lt (.tup (.cons (.call .n_law_moved (.cons (.var 4) (.cons (.var 10) .nil))) (.cons (.var 10) .nil))) (.tup (.cons (.var 8) (.cons (.var 6) .nil))))
  (.cons (.ret (.bl false))
  .nil)
  .nil)
  .nil)))
  (.cons (.set 4 (.var 6))
  .nil))))))))
  (.cons (.ret (.bl true))
  .nil))))))⟩
def b_law_even : Df := ⟨3, ["_law_box", "_law_houses", "_law_owners", "_law_share", "_law_over", "_law_left", "_law_more", "_law_room", "_law_found", "_law_order", "_law_k", "_law_some", "_law_house"], (.cons (.par [3, 4] (.cons (.bin .div (.int 12) (.bi .len (.cons (.var 1) .nil))) (.cons (.bin .mod (.int 12) (.bi .len (.cons (.var 1) .nil))) .nil)))
  (.cons (.set 5 (.bi .list (.cons (.var 1) .nil)))
  (.cons (.set 6 (.lc [10] true (.rng1 (.var 4)) (.bm .pop (.var 5) (.cons (.call .n_law_take (.cons (.var 0) (.cons (.bi .len (.cons (.var 5) .nil)) .nil))) .nil)) .no))
  (.cons (.set 7 (.bi .dict (.cons (.lc [12] true (.var 1) (.tup (.cons (.var 12) (.cons (.bin .add (.var 3) (.bi .int (.cons (.cmp .inn (.var 12) (.var 6)) .nil))) .nil))) .no) .nil)))
  (.cons (.set 8 (.bin .mul (.lst (.cons .non .nil)) (.int 12)))
  (.cons (.set 9 (.bi .lrng1 (.cons (.int 12) .nil)))
  (.cons (.set 9 (.lc [10] true (.rng1 (.int 12)) (.bm .pop (.var 9) (.cons (.call .n_law_take (.cons (.var 0) (.cons (.bi .len (.cons (.var 9) .nil)) .nil))) .nil)) .no))
  (.cons (.for_ [10] true (.var 9)
  (.cons (.ite (.and (.cmp .gt (.bm .get (.var 7) (.cons (.ix (.var 2) (.var 10)) (.cons (.int 0) .nil))) (.int 0)) (.cmp .gt (.call .n_law_take (.cons (.var 0) (.cons (.int 6) .nil))) (.int 0)))
  (.cons (.setI (.var 8) (.var 10) (.ix (.var 2) (.var 10)))
  (.cons (.setI (.var 7) (.ix (.var 2) (.var 10)) (.bin .sub (.ix (.var 7) (.ix (.var 2) (.var 10))) (.int 1)))
  .nil))
  .nil)
  .nil))
  (.cons (.for_ [10] true (.var 9)
  (.cons (.ite (.cmp .is (.ix (.var 8) (.var 10)) .non)
  (.cons (.set 11 (.lc [12] true (.var 1) (.var 12) (.cmp .gt (.ix (.var 7) (.var 12)) (.int 0))))
  (.cons (.setI (.var 8) (.var 10) (.ix (.var 11) (.call .n_law_take (.cons (.var 0) (.cons (.bi .len (.cons (.var 11) .nil)) .nil)))))
  (.cons (.setI (.var 7) (.ix (.var 8) (.var 10)) (.bin .sub (.ix (.var 7) (.ix (.var 8) (.var 10))) (.int 1)))
  .nil)))
  .nil)
  .nil))
  (.cons (.ret (.bi .tuple (.cons (.var 8) .nil)))
  .nil))))))))))⟩
def b_Judge_init : Df := ⟨1, ["self"], (.cons (.setA (.var 0) .n_counts (.dct .nil))
  (.cons (.setA (.var 0) .n_held (.dct .nil))
  (.cons (.setA (.var 0) .n_numbers (.dct .nil))
  (.cons (.setA (.var 0) .n_make (.int 0))
  .nil))))⟩
def b_Judge_lets : Df := ⟨2, ["self", "deed", "slot", "count", "asker", "number", "more", "worth", "make"], (.cons (.setT [2, 3, 4, 5, 6, 7, 8] (.var 1))
  (.cons (.ite (.or (.cmp .ne (.var 3) (.bin .add (.bm .get (.attr (.var 0) .n_counts) (.cons (.var 2) (.cons (.int 0) .nil))) (.int 1))) (.cmp .ne (.var 7) (.bin .mod (.bin .add (.bm .get (.attr (.var 0) .n_held) (.cons (.var 2) (.cons (.int 0) .nil))) (.var 6)) (.gi .n_RING 1000))))
  (.cons (.ret (.bl false))
  .nil)
  .nil)
  (.cons (.ite (.or (.cmp .ne (.var 5) (.bin .add (.bm .get (.attr (.var 0) .n_numbers) (.cons (.var 4) (.cons (.int 0) .nil))) (.int 1))) (.cmp .lt (.var 8) (.attr (.var 0) .n_make)))
  (.cons (.ret (.bl false))
  .nil)
  .nil)
  (.cons (.setI (.attr (.var 0) .n_counts) (.var 2) (.var 3))
  (.cons (.setI (.attr (.var 0) .n_held) (.var 2) (.var 7))
  (.cons (.setI (.attr (.var 0) .n_numbers) (.var 4) (.var 5))
  (.cons (.setA (.var 0) .n_make (.var 8))
  (.cons (.ret (.bl true))
  .nil))))))))⟩
def b_judge : Df := ⟨1, ["deeds", "judged", "place", "deed"], (.cons (.set 1 (.new .n_Judge .nil))
  (.cons (.forE 2 3 (.var 0)
  (.cons (.ite (.nt (.meth (.var 1) .n_lets (.cons (.var 3) .nil)))
  (.cons (.ret (.var 2))
  .nil)
  .nil)
  .nil))
  (.cons (.ret .non)
  .nil)))⟩

end D
end

section
/-! The plain layer: what must stand ahead of a run for what stands behind it. -/
namespace D
open PySem L2
section
variable {α β : Type}
def R.wp (m : R α) (Q : α → Sto → Prop) (E : Exc → Sto → Prop) : Prop := match m with
  | .ok a S => Q a S
  | .ex x S => E x S
  | .no => False
def RS.wp (m : RS) (N : Env → Sto → Prop) (V : W → Sto → Prop) (E : Exc → Env → Sto → Prop) : Prop := match m with
  | .nx σ S => N σ S
  | .rt v S => V v S
  | .ex x σ S => E x σ S
  | .no => False
theorem R.wp_bind (m : R α) (f : α → Sto → R β) (Q : β → Sto → Prop) (E : Exc → Sto → Prop) : (m.bind f).wp Q E = m.wp (fun a S => (f a S).wp Q E) E := by cases m <;> rfl
theorem R.wp_to (m : R α) (σ : Env) (f : α → Sto → RS) (N : Env → Sto → Prop) (V : W → Sto → Prop) (E : Exc → Env → Sto → Prop) : (m.to σ f).wp N V E = m.wp (fun a S => (f a S).wp N V E) (fun x S => E x σ S) := by cases m <;> rfl
theorem RS.wp_then (r : RS) (f : Env → Sto → RS) (N : Env → Sto → Prop) (V : W → Sto → Prop) (E : Exc → Env → Sto → Prop) : (r.then f).wp N V E = r.wp (fun σ S => (f σ S).wp N V E) V E := by cases r <;> rfl
theorem R.wp_noex (m : R α) (Q : α → Sto → Prop) (E : Exc → Sto → Prop) : m.noex.wp Q E = m.wp Q (fun _ _ => False) := by cases m <;> rfl
theorem R.wp_mono {m : R α} {Q Q' : α → Sto → Prop} {E E' : Exc → Sto → Prop} (h : m.wp Q E) (q : ∀ a S, Q a S → Q' a S) (e : ∀ x S, E x S → E' x S) : m.wp Q' E' := by
  cases m with
  | ok a S => exact q a S h
  | ex x S => exact e x S h
  | no => exact h
theorem RS.wp_mono {m : RS} {N N' : Env → Sto → Prop} {V V' : W → Sto → Prop} {E E' : Exc → Env → Sto → Prop} (h : m.wp N V E) (n : ∀ σ S, N σ S → N' σ S) (v : ∀ a S, V a S → V' a S) (e : ∀ x σ S, E x σ S → E' x σ S) : m.wp N' V' E' := by
  cases m with
  | nx σ S => exact n σ S h
  | rt a S => exact v a S h
  | ex x σ S => exact e x σ S h
  | no => exact h
theorem R.wp_ok {a : α} {S : Sto} {Q : α → Sto → Prop} {E : Exc → Sto → Prop} : (R.ok a S).wp Q E = Q a S := rfl
theorem R.wp_no {Q : α → Sto → Prop} {E : Exc → Sto → Prop} : (R.no : R α).wp Q E = False := rfl
theorem R.wp_ite {p : Prop} [Decidable p] {a b : R α} {Q : α → Sto → Prop} {E : Exc → Sto → Prop} : (if p then a else b).wp Q E = if p then a.wp Q E else b.wp Q E := by split <;> rfl
end
/-! ### looks at values -/
def varP (o : Option (Option W)) (k : W → Prop) : Prop := match o with
  | some (some v) => k v
  | _ => False
def intP (w : W) (k : Int → Prop) : Prop := match w with
  | .int i => k i
  | _ => False
def blP (w : W) (k : Bool → Prop) : Prop := match w with
  | .bl b => k b
  | _ => False
def refP (w : W) (k : Nat → Prop) : Prop := match w with
  | .ref n => k n
  | _ => False
def tupP (w : W) (k : List W → Prop) : Prop := match w with
  | .tup n => k n
  | _ => False
def nonP (w : W) (k : Prop) : Prop := match w with
  | .non => k
  | _ => False
def keyP (o : Option Key) (k : Key → Prop) : Prop := match o with
  | some n => k n
  | none => False
def optP {α : Type} (o : Option α) (k : α → Prop) : Prop := match o with
  | some n => k n
  | none => False
def insP (o : Option Nd) (k : Nm → List (Nm × W) → Prop) : Prop := match o with
  | some (.ins c fs) => k c fs
  | _ => False
def lstP (o : Option Nd) (k : List W → Prop) : Prop := match o with
  | some (.lst xs) => k xs
  | _ => False
def seqP (o : Option Nd) (k : List W → Prop) : Prop := match o with
  | some (.lst xs) => k xs
  | some (.frz xs) => k xs
  | _ => False
def dctP (o : Option Nd) (k : List (Key × W) → Prop) : Prop := match o with
  | some (.dct false kvs) => k kvs
  | _ => False
section
variable {w : W} {kv : W → Prop} {ki : Int → Prop} {kb : Bool → Prop} {kn : Nat → Prop} {kt : List W → Prop} {kp : Prop} {kd : List (Key × W) → Prop}
theorem varP_some : varP (some (some w)) kv = kv w := rfl
theorem intP_int {i : Int} : intP (.int i) ki = ki i := rfl
theorem blP_bl {i : Bool} : blP (.bl i) kb = kb i := rfl
theorem refP_ref {i : Nat} : refP (.ref i) kn = kn i := rfl
theorem tupP_tup {i : List W} : tupP (.tup i) kt = kt i := rfl
theorem nonP_non : nonP .non kp = kp := rfl
theorem optP_some {α : Type} {a : α} {k : α → Prop} : optP (some a) k = k a := rfl
theorem insP_ins {c : Nm} {fs : List (Nm × W)} {k : Nm → List (Nm × W) → Prop} : insP (some (.ins c fs)) k = k c fs := rfl
theorem lstP_lst {xs : List W} : lstP (some (.lst xs)) kt = kt xs := rfl
theorem seqP_lst {xs : List W} : seqP (some (.lst xs)) kt = kt xs := rfl
theorem seqP_frz {xs : List W} : seqP (some (.frz xs)) kt = kt xs := rfl
theorem dctP_dct {kvs : List (Key × W)} : dctP (some (.dct false kvs)) kd = kd kvs := rfl
theorem tupOf_tup {xs : List W} : tupOf (.tup xs) = xs := rfl
end
/-! ### expressions -/
section
variable {c : Call} {σ : Env} {S : Sto} {Q : W → Sto → Prop} {Z : Exc → Sto → Prop}
theorem e_var {i : Nat} : (eval c (.var i) σ S).wp Q Z = varP σ[i]? (fun v => Q v S) := by
  simp only [eval]
  split
  · rename_i h; rw [h]; rfl
  · rename_i h
    unfold varP
    split
    · rename_i v g; exact absurd g (h v)
    · rfl
theorem e_int {i : Int} : (eval c (.int i) σ S).wp Q Z = Q (.int i) S := rfl
theorem e_bl {i : Bool} : (eval c (.bl i) σ S).wp Q Z = Q (.bl i) S := rfl
theorem e_non : (eval c .non σ S).wp Q Z = Q .non S := rfl
theorem e_str {n : Nm} : (eval c (.str n) σ S).wp Q Z = Q (.str n.str) S := rfl
theorem e_gi {n : Nm} {i : Int} : (eval c (.gi n i) σ S).wp Q Z = Q (.int i) S := rfl
theorem e_gs {n s : Nm} : (eval c (.gs n s) σ S).wp Q Z = Q (.str s.str) S := rfl
variable {a b d : D.E}
theorem e_bin {o : Bo} : (eval c (.bin o a b) σ S).wp Q Z = (eval c a σ S).wp (fun x S => (eval c b σ S).wp (fun y S => (binW o x y S).wp Q Z) Z) Z := by
  simp only [eval, R.wp_bind]
theorem e_neg : (eval c (.neg a) σ S).wp Q Z = (eval c a σ S).wp (fun x S => intP x fun i => Q (.int (-i)) S) Z := by
  simp only [eval, R.wp_bind]
  congr 1; funext x S; cases x <;> rfl
theorem e_nt : (eval c (.nt a) σ S).wp Q Z = (eval c a σ S).wp (fun x S => blP x fun i => Q (.bl (!i)) S) Z := by
  simp only [eval, R.wp_bind]
  congr 1; funext x S; cases x <;> rfl
theorem e_and : (eval c (.and a b) σ S).wp Q Z = (eval c a σ S).wp (fun x S => blP x fun i => if i = true then (eval c b σ S).wp Q Z else Q (.bl false) S) Z := by
  simp only [eval, R.wp_bind]
  congr 1; funext x S; rcases x with _ | (_ | _) | _ | _ | _ | _ <;> rfl
theorem e_or : (eval c (.or a b) σ S).wp Q Z = (eval c a σ S).wp (fun x S => blP x fun i => if i = true then Q (.bl true) S else (eval c b σ S).wp Q Z) Z := by
  simp only [eval, R.wp_bind]
  congr 1; funext x S; rcases x with _ | (_ | _) | _ | _ | _ | _ <;> rfl
theorem e_cmp {o : Co} : (eval c (.cmp o a b) σ S).wp Q Z = (eval c a σ S).wp (fun x S => (eval c b σ S).wp (fun y S => (cmpW o x y S).wp Q Z) Z) Z := by
  simp only [eval, R.wp_bind]
theorem e_chain {o p : Co} : (eval c (.chain o p a b d) σ S).wp Q Z = (eval c a σ S).wp (fun x S => (eval c b σ S).wp (fun y S => (cmpW o x y S).wp (fun k S => blP k fun i => if i = true then (eval c d σ S).wp (fun z S => (cmpW p y z S).wp Q Z) Z else Q (.bl false) S) Z) Z) Z := by
  simp only [eval, R.wp_bind]
  congr 1; funext x S; congr 1; funext y S; congr 1; funext k S
  rcases k with _ | (_ | _) | _ | _ | _ | _ <;> first | rfl | exact R.wp_bind _ _ _ _
theorem e_ife : (eval c (.ife a b d) σ S).wp Q Z = (eval c a σ S).wp (fun x S => blP x fun i => if i = true then (eval c b σ S).wp Q Z else (eval c d σ S).wp Q Z) Z := by
  simp only [eval, R.wp_bind]
  congr 1; funext x S; rcases x with _ | (_ | _) | _ | _ | _ | _ <;> rfl
theorem e_call {f : Nm} : (eval c (.call f a) σ S).wp Q Z = (eval c a σ S).wp (fun t S => (c (.fn f) (tupOf t) S).wp Q Z) Z := by
  simp only [eval, R.wp_bind]
theorem e_new {k : Nm} : (eval c (.new k a) σ S).wp Q Z = (eval c a σ S).wp (fun t S => (c (.me k .d_init) (.ref S.next :: tupOf t) (S.new (.ins k []))).wp (fun v S' => nonP v (Q (.ref S.next) S')) Z) Z := by
  simp only [eval, R.wp_bind]
  congr 1; funext x S; congr 1; funext y S; cases y <;> rfl
theorem e_meth {m : Nm} : (eval c (.meth a m b) σ S).wp Q Z = (eval c a σ S).wp (fun v S => refP v fun n => insP (S.get n) fun k fs => fld fs m = none ∧ (eval c b σ S).wp (fun t S => (c (.me k m) (.ref n :: tupOf t) S).wp Q Z) (fun _ _ => False)) Z := by
  simp only [eval, R.wp_bind]
  congr 1; funext x S
  cases x with
  | ref n =>
    simp only [refP]
    split
    · rename_i k fs g
      simp only [g, insP]
      split
      · rename_i h; simp only [h, true_and, R.wp_bind, R.wp_noex]
      · rename_i x h; simp only [h, reduceCtorEq, false_and]; rfl
    · rename_i h
      unfold insP
      split
      · rename_i k fs g; exact absurd g (h k fs)
      · rfl
  | _ => rfl
theorem e_bi {f : Bi} : (eval c (.bi f a) σ S).wp Q Z = (eval c a σ S).wp (fun t S => (biW f (tupOf t) S).wp Q Z) Z := by
  simp only [eval, R.wp_bind]
theorem e_bm {m : Bm} : (eval c (.bm m a b) σ S).wp Q Z = (eval c a σ S).wp (fun v S => optP (kd v S) fun k => fitK m k = true ∧ (eval c b σ S).wp (fun t S' => kd v S' = some k ∧ (bmW m v (tupOf t) S').wp Q Z) Z) Z := by
  simp only [eval, R.wp_bind]
  congr 1; funext x S
  cases kd x S with
  | none => rfl
  | some k =>
    simp only [optP]
    by_cases h : fitK m k = true
    · simp only [h, if_true, R.wp_bind, true_and]
      congr 1; funext t S'
      by_cases g : kd x S' = some k
      · simp [g]
      · simp [g, R.wp]
    · simp [h, R.wp]
theorem e_attr {f : Nm} : (eval c (.attr a f) σ S).wp Q Z = (eval c a σ S).wp (fun v S => refP v fun n => insP (S.get n) fun k fs => optP (fld fs f) fun x => Q x S) Z := by
  simp only [eval, R.wp_bind]
  congr 1; funext x S
  cases x with
  | ref n =>
    simp only [refP]
    split
    · rename_i k fs g
      simp only [g, insP]
      cases fld fs f <;> rfl
    · rename_i h
      unfold insP
      split
      · rename_i k fs g; exact absurd g (h k fs)
      · rfl
  | _ => rfl
theorem e_ix : (eval c (.ix a b) σ S).wp Q Z = (eval c a σ S).wp (fun x S => (eval c b σ S).wp (fun y S => (itemW x y S).wp Q Z) Z) Z := by
  simp only [eval, R.wp_bind]
def isNo : E → Bool
  | .no => true
  | _ => false
def evO (c : Call) (e : E) (σ : Env) (S : Sto) (Q : Option Int → Sto → Prop) (Z : Exc → Sto → Prop) : Prop := if isNo e then Q none S else (eval c e σ S).wp (fun v S => intP v fun i => Q (some i) S) Z
theorem e_sl {lo hi : E} : (eval c (.sl a lo hi) σ S).wp Q Z = (eval c a σ S).wp (fun x S => evO c lo σ S (fun l S => evO c hi σ S (fun h S => (sliceW x l h S).wp Q Z) Z) Z) Z := by
  have key : ∀ (e : D.E) (S : Sto) (g : W → Sto → R W), ((match e with
      | .no => R.ok W.non S
      | _ => (eval c e σ S).bind intR).bind g).wp Q Z = evO c e σ S (fun l S => (g (match l with | some i => .int i | none => .non) S).wp Q Z) Z := fun e S g => by
    cases e <;> simp only [evO, isNo, R.wp_bind, if_true, Bool.false_eq_true, if_false] <;> first | rfl | (congr 1; funext v S; cases v <;> rfl)
  simp only [eval]
  rw [R.wp_bind]
  congr 1; funext x S
  refine (key lo S _).trans ?_
  congr 1; funext l S
  refine (key hi S _).trans ?_
  congr 1; funext h S
  cases l <;> cases h <;> rfl
theorem e_rev : (eval c (.rev a) σ S).wp Q Z = (eval c a σ S).wp (fun x S => refP x fun n => lstP (S.get n) fun xs => Q (.ref S.next) (S.new (.lst xs.reverse))) Z := by
  simp only [eval, R.wp_bind]
  congr 1; funext x S
  cases x with
  | ref n =>
    simp only [revW, refP]
    split
    · rename_i g; rw [g]; rfl
    · rename_i h
      unfold lstP
      split
      · rename_i g; exact absurd g (h _)
      · rfl
  | _ => rfl
theorem e_tup : (eval c (.tup a) σ S).wp Q Z = (eval c a σ S).wp Q Z := by
  simp only [eval, R.wp_bind]; rfl
theorem e_lst : (eval c (.lst a) σ S).wp Q Z = (eval c a σ S).wp (fun t S => Q (.ref S.next) (S.new (.lst (tupOf t)))) Z := by
  simp only [eval, R.wp_bind]; rfl
theorem e_dct0 : (eval c (.dct .nil) σ S).wp Q Z = Q (.ref S.next) (S.new (.dct false [])) := rfl
theorem e_dctk {k v r : D.E} : (eval c (.dct (.kv k v r)) σ S).wp Q Z = (eval c (.kv k v r) σ (S.new (.dct false []))).wp (fun t S' => dctP (S'.get S.next) fun kvs => kvs = [] ∧ optP (pairsOf (tupOf t)) fun ps => ps.length ≤ 15 ∧ Q (.ref S.next) (S'.put S.next (.dct false (mergeW [] ps)))) Z := by
  conv => lhs; unfold eval
  simp only [R.wp_bind]
  congr 1; funext t S'
  cases g : S'.get S.next with
  | none => rfl
  | some d =>
    cases d with
    | dct l kvs =>
      cases l with
      | true => rfl
      | false =>
        cases kvs with
        | nil =>
          cases p : pairsOf (tupOf t) with
          | none => simp [dctP, optP, R.wp]
          | some ps =>
            simp only [dctP, optP, true_and]
            by_cases h : ps.length ≤ 15 <;> simp [h, R.wp]
        | cons x xs => cases pairsOf (tupOf t) <;> simp [dctP, R.wp]
    | _ => rfl
theorem e_isi {t : Ty} : (eval c (.isi a t) σ S).wp Q Z = (eval c a σ S).wp (fun x S => optP (isiW t x S) fun b => Q (.bl b) S) Z := by
  simp only [eval, R.wp_bind]
  congr 1; funext x S; cases isiW t x S <;> rfl
theorem e_rng1 : (eval c (.rng1 a) σ S).wp Q Z = (eval c a σ S).wp (fun x S => intP x fun n => (-100000 ≤ n ∧ n ≤ 100000) ∧ Q (.tup (rangeW 0 n)) S) Z := by
  simp only [eval, R.wp_bind]
  congr 1; funext x S
  cases x with
  | int n =>
    simp only [intP]
    by_cases h : -100000 ≤ n ∧ n ≤ 100000 <;> simp [h, R.wp]
  | _ => rfl
theorem e_rng2 : (eval c (.rng2 a b) σ S).wp Q Z = (eval c a σ S).wp (fun x S => (eval c b σ S).wp (fun y S => intP x fun i => intP y fun j => (-100000 ≤ i ∧ i ≤ 100000 ∧ -100000 ≤ j ∧ j ≤ 100000) ∧ Q (.tup (rangeW i j)) S) Z) Z := by
  simp only [eval, R.wp_bind]
  congr 1; funext x S; congr 1; funext y S
  cases x with
  | int i => cases y with
    | int j =>
      simp only [intP]
      by_cases h : -100000 ≤ i ∧ i ≤ 100000 ∧ -100000 ≤ j ∧ j ≤ 100000 <;> simp [h, R.wp]
    | _ => rfl
  | _ => rfl
theorem e_nil : (eval c .nil σ S).wp Q Z = Q (.tup []) S := rfl
theorem e_cons : (eval c (.cons a b) σ S).wp Q Z = (eval c a σ S).wp (fun x S => (eval c b σ S).wp (fun t S => Q (.tup (x :: tupOf t)) S) Z) Z := by
  simp only [eval, R.wp_bind]; rfl
theorem e_kv : (eval c (.kv a b d) σ S).wp Q Z = (eval c a σ S).wp (fun x S => (eval c b σ S).wp (fun y S => (eval c d σ S).wp (fun t S => Q (.tup (.tup [x, y] :: tupOf t)) S) Z) Z) Z := by
  simp only [eval, R.wp_bind]; rfl
end
end D
end

section
/-! The plain layer: values, statements, loops, calls. -/
namespace D
open PySem L2
/-! ### the store -/
section
variable {S : Sto} {n m : Nat} {d : Nd}
theorem put_get : (S.put n d).get n = some d := if_pos rfl
theorem put_ne (h : m ≠ n) : (S.put n d).get m = S.get m := if_neg h
theorem put_next : (S.put n d).next = S.next := rfl
theorem new_get : (S.new d).get S.next = some d := if_pos rfl
theorem new_ne (h : m < S.next) : (S.new d).get m = S.get m := if_neg (Nat.ne_of_lt h)
theorem new_at (h : m ≤ S.next) (g : S.next ≤ m) : (S.new d).get m = some d := if_pos (Nat.le_antisymm h g)
theorem new_next : (S.new d).next = S.next + 1 := rfl
end
/-! ### operators on values -/
section
variable {S : Sto} {Q : W → Sto → Prop} {Z : Exc → Sto → Prop} {i j : Int} {x y : Str} {n m : Nat} {xs ys : List W}
theorem b_add : (binW .add (.int i) (.int j) S).wp Q Z = Q (.int (i + j)) S := rfl
theorem b_sub : (binW .sub (.int i) (.int j) S).wp Q Z = Q (.int (i - j)) S := rfl
theorem b_mul : (binW .mul (.int i) (.int j) S).wp Q Z = (((-(2 ^ 64) < i ∧ i < 2 ^ 64) ∨ (-(2 ^ 64) < j ∧ j < 2 ^ 64)) ∧ Q (.int (i * j)) S) := by
  show (if _ then _ else _ : R W).wp Q Z = _
  rw [R.wp_ite]
  split <;> rename_i h <;> simp only [h, true_and, false_and, R.wp_ok, R.wp_no]
theorem b_div : (binW .div (.int i) (.int j) S).wp Q Z = ((0 < j ∧ j < 2 ^ 100) ∧ Q (.int (i / j)) S) := by
  show (if _ then _ else _ : R W).wp Q Z = _
  rw [R.wp_ite]
  split <;> rename_i h <;> simp only [h, true_and, false_and, R.wp_ok, R.wp_no]
theorem b_mod : (binW .mod (.int i) (.int j) S).wp Q Z = (0 < j ∧ Q (.int (i % j)) S) := by
  show (if _ then _ else _ : R W).wp Q Z = _
  rw [R.wp_ite]
  split <;> rename_i h <;> simp only [h, true_and, false_and, R.wp_ok, R.wp_no]
theorem b_addS : (binW .add (.str x) (.str y) S).wp Q Z = (x.length + y.length ≤ lim ∧ Q (.str (x ++ y)) S) := by
  show (if _ then _ else _ : R W).wp Q Z = _
  rw [R.wp_ite]
  split <;> rename_i h <;> simp only [h, true_and, false_and, R.wp_ok, R.wp_no]
theorem b_addT : (binW .add (.tup xs) (.tup ys) S).wp Q Z = (xs.length + ys.length ≤ lim ∧ Q (.tup (xs ++ ys)) S) := by
  show (if _ then _ else _ : R W).wp Q Z = _
  rw [R.wp_ite]
  split <;> rename_i h <;> simp only [h, true_and, false_and, R.wp_ok, R.wp_no]
theorem b_addL : (binW .add (.ref n) (.ref m) S).wp Q Z = lstP (S.get n) fun xs => lstP (S.get m) fun ys => xs.length + ys.length ≤ lim ∧ Q (.ref S.next) (S.new (.lst (xs ++ ys))) := by
  show (match S.get n, S.get m with
    | some (.lst xs), some (.lst ys) => if xs.length + ys.length ≤ lim then mk (.lst (xs ++ ys)) S else .no
    | _, _ => .no : R W).wp Q Z = _
  cases g : S.get n with
  | none => rfl
  | some d =>
    cases d with
    | lst xs =>
      cases g2 : S.get m with
      | none => rfl
      | some d2 =>
        cases d2 with
        | lst ys =>
          simp only [lstP, R.wp_ite]
          split <;> rename_i h <;> simp only [h, true_and, false_and, R.wp_no] <;> rfl
        | _ => rfl
    | _ => rfl
theorem b_mulL : (binW .mul (.ref n) (.int i) S).wp Q Z = lstP (S.get n) fun xs => (-1000 ≤ i ∧ i ≤ 1000 ∧ xs.length ≤ 1000) ∧ Q (.ref S.next) (S.new (.lst (List.replicate i.toNat xs).flatten)) := by
  show (match S.get n with
    | some (.lst xs) => if -1000 ≤ i ∧ i ≤ 1000 ∧ xs.length ≤ 1000 then mk (.lst (List.replicate i.toNat xs).flatten) S else .no
    | _ => .no : R W).wp Q Z = _
  cases g : S.get n with
  | none => rfl
  | some d =>
    cases d with
    | lst xs =>
      simp only [lstP, R.wp_ite]
      split <;> rename_i h <;> simp only [h, true_and, false_and, R.wp_no] <;> rfl
    | _ => rfl
theorem c_lt : (cmpW .lt (.int i) (.int j) S).wp Q Z = Q (.bl (decide (i < j))) S := rfl
theorem c_le : (cmpW .le (.int i) (.int j) S).wp Q Z = Q (.bl (decide (i ≤ j))) S := rfl
theorem c_gt : (cmpW .gt (.int i) (.int j) S).wp Q Z = Q (.bl (decide (j < i))) S := rfl
theorem c_ge : (cmpW .ge (.int i) (.int j) S).wp Q Z = Q (.bl (decide (j ≤ i))) S := rfl
theorem c_is {w : W} : (cmpW .is w .non S).wp Q Z = Q (.bl (isN w)) S := rfl
theorem c_isn {w : W} : (cmpW .isn w .non S).wp Q Z = Q (.bl (!isN w)) S := rfl
theorem c_eq {a b : W} : (cmpW .eq a b S).wp Q Z = optP (eqW S a b) fun t => Q (.bl t) S := by
  show (boolR (eqW S a b) S).wp Q Z = _
  cases eqW S a b <;> rfl
theorem c_ne {a b : W} : (cmpW .ne a b S).wp Q Z = optP (eqW S a b) fun t => Q (.bl (!t)) S := by
  show (boolR ((eqW S a b).map (!·)) S).wp Q Z = _
  cases eqW S a b <;> rfl
theorem c_in {a b : W} : (cmpW .inn a b S).wp Q Z = optP (inW S a b) fun t => Q (.bl t) S := by
  show (boolR (inW S a b) S).wp Q Z = _
  cases inW S a b <;> rfl
theorem c_nin {a b : W} : (cmpW .nin a b S).wp Q Z = optP (inW S a b) fun t => Q (.bl (!t)) S := by
  show (boolR ((inW S a b).map (!·)) S).wp Q Z = _
  cases inW S a b <;> rfl
theorem eq_int : eqW S (.int i) (.int j) = some (decide (i = j)) := by
  show some (decide (V.int i = V.int j)) = _
  rw [dec_int]; rfl
theorem eq_str : eqW S (.str x) (.str y) = some (decide (x = y)) := by
  show some (decide (V.str x = V.str y)) = _
  rw [dec_str]; rfl
theorem eq_bl {a b : Bool} : eqW S (.bl a) (.bl b) = some (a == b) := by
  show some (decide (V.bl a = V.bl b)) = _
  rw [dec_bl]
theorem eq_si : eqW S (.str x) (.int i) = some false := by
  show some (decide (V.str x = V.int i)) = _
  rw [decide_eq_false (by simp)]
theorem eq_is : eqW S (.int i) (.str x) = some false := by
  show some (decide (V.int i = V.str x)) = _
  rw [decide_eq_false (by simp)]
theorem eq_nn : eqW S .non .non = some true := rfl
theorem eq_ni : eqW S .non (.int i) = some false := by
  show some (decide (V.non = V.int i)) = _
  rw [decide_eq_false (by simp)]
theorem eq_in : eqW S (.int i) .non = some false := by
  show some (decide (V.int i = V.non)) = _
  rw [decide_eq_false (by simp)]
theorem i_tup : (itemW (.tup xs) (.int i) S).wp Q Z = optP (atI xs i) fun x => Q x S := by
  show (match atI xs i with
    | some x => .ok x S
    | none => .no : R W).wp Q Z = _
  cases atI xs i <;> rfl
theorem i_str : (itemW (.str x) (.int i) S).wp Q Z = (x.length ≤ lim ∧ optP (atI x.cps.toList i) fun c => Q (.str ⟨#[c]⟩) S) := by
  show (if x.length ≤ lim then (match atI x.cps.toList i with
    | some c => .ok (.str ⟨#[c]⟩) S
    | none => .no) else .no : R W).wp Q Z = _
  rw [R.wp_ite]
  split <;> rename_i h
  · simp only [h, true_and]; cases atI x.cps.toList i <;> rfl
  · simp only [h, false_and]; rfl
/-- a list by a number, a dict by a key -/
def itmP (o : Option Nd) (w : W) (k : W → Prop) : Prop := match o with
  | some (.lst xs) => intP w fun i => optP (atI xs i) k
  | some (.dct _ kvs) => keyP w.key fun i => optP (valW kvs i) k
  | _ => False
theorem i_ref {w : W} : (itemW (.ref n) w S).wp Q Z = itmP (S.get n) w fun x => Q x S := by
  show (match S.get n with
    | some (.lst xs) => (match w with
      | .int k => (match atI xs k with
        | some x => .ok x S
        | none => .no)
      | _ => .no)
    | some (.dct _ kvs) => (match w.key with
      | some k => (match valW kvs k with
        | some x => .ok x S
        | none => .no)
      | none => .no)
    | _ => .no : R W).wp Q Z = _
  cases g : S.get n with
  | none => rfl
  | some d =>
    cases d with
    | lst xs =>
      cases w with
      | int k => simp only [itmP, intP]; cases atI xs k <;> rfl
      | _ => rfl
    | dct l kvs =>
      simp only [itmP]
      cases w.key with
      | none => rfl
      | some k => simp only [keyP]; cases valW kvs k <;> rfl
    | _ => rfl
theorem itm_lst {k : W → Prop} : itmP (some (.lst xs)) (.int i) k = optP (atI xs i) k := rfl
theorem itm_dct {k : W → Prop} {l : Bool} {kvs : List (Key × W)} {w : W} : itmP (some (.dct l kvs)) w k = keyP w.key fun i => optP (valW kvs i) k := rfl
theorem key_int : keyP (W.key (.int i)) = fun k => k (.inl i) := rfl
theorem key_str : keyP (W.key (.str x)) = fun k => k (.inr x) := rfl
theorem s_tup {l h : Option Int} : (sliceW (.tup xs) l h S).wp Q Z = Q (.tup (cutW xs l h)) S := rfl
theorem s_str {l h : Option Int} : (sliceW (.str x) l h S).wp Q Z = (x.length ≤ lim ∧ Q (.str (cutS x l h)) S) := by
  show (if _ then _ else _ : R W).wp Q Z = _
  rw [R.wp_ite]
  split <;> rename_i h <;> simp only [h, true_and, false_and, R.wp_ok, R.wp_no]
theorem s_ref {l h : Option Int} : (sliceW (.ref n) l h S).wp Q Z = lstP (S.get n) fun xs => Q (.ref S.next) (S.new (.lst (cutW xs l h))) := by
  show (match S.get n with
    | some (.lst xs) => mk (.lst (cutW xs l h)) S
    | _ => .no : R W).wp Q Z = _
  cases S.get n with
  | none => rfl
  | some d => cases d <;> rfl
theorem at_zero {α : Type} {a : α} {l : List α} : atI (a :: l) 0 = some a := by
  unfold atI ixN
  rw [if_pos (Int.le_refl 0), if_pos (by simp only [List.length_cons]; omega)]; rfl
theorem at_nat {α : Type} {l : List α} {k : Int} (h : 0 ≤ k) : atI l k = l[k.toNat]? := by
  unfold atI ixN
  rw [if_pos h]
  by_cases g : k < l.length
  · rw [if_pos g]; rfl
  · rw [if_neg g, List.getElem?_eq_none (by omega)]; rfl
theorem at_neg {α : Type} {l : List α} {k : Int} (h : k < 0) (g : -(l.length : Int) ≤ k) : atI l k = l[(k + l.length).toNat]? := by
  unfold atI ixN
  rw [if_neg (by omega), if_pos g]; rfl
end
/-! ### built-in functions and methods -/
section
variable {S : Sto} {Q : W → Sto → Prop} {Z : Exc → Sto → Prop} {i j : Int} {x y : Str} {n m : Nat} {xs ys : List W} {w v : W}
/-- how long a thing is -/
def lenP (o : Option Nd) (k : Int → Prop) : Prop := match o with
  | some (.lst xs) => k xs.length
  | some (.frz xs) => k xs.length
  | some (.dct false kvs) => k kvs.length
  | _ => False
theorem f_lenT : (biW .len [.tup xs] S).wp Q Z = Q (.int xs.length) S := rfl
theorem f_lenS : (biW .len [.str x] S).wp Q Z = (x.length ≤ lim ∧ Q (.int x.length) S) := by
  show (if _ then _ else _ : R W).wp Q Z = _
  rw [R.wp_ite]
  split <;> rename_i h <;> simp only [h, true_and, false_and, R.wp_ok, R.wp_no]
theorem f_lenR : (biW .len [.ref n] S).wp Q Z = lenP (S.get n) fun k => Q (.int k) S := by
  show (match S.get n with
      | some (.lst xs) => .ok (.int xs.length) S
      | some (.frz xs) => .ok (.int xs.length) S
      | some (.dct false kvs) => .ok (.int kvs.length) S
      | _ => .no : R W).wp Q Z = _
  cases S.get n with
  | none => rfl
  | some d =>
    cases d with
    | dct l kvs => cases l <;> rfl
    | _ => rfl
theorem len_lst {k : Int → Prop} : lenP (some (.lst xs)) k = k xs.length := rfl
theorem len_frz {k : Int → Prop} : lenP (some (.frz xs)) k = k xs.length := rfl
theorem len_dct {k : Int → Prop} {kvs : List (Key × W)} : lenP (some (.dct false kvs)) k = k kvs.length := rfl
theorem f_listT : (biW .list [.tup xs] S).wp Q Z = Q (.ref S.next) (S.new (.lst xs)) := rfl
theorem f_listR : (biW .list [.ref n] S).wp Q Z = seqP (S.get n) fun xs => Q (.ref S.next) (S.new (.lst xs)) := by
  show (match seqOf S (.ref n) with
    | some xs => mk (.lst xs) S
    | none => .no : R W).wp Q Z = _
  simp only [seqOf]
  cases S.get n with
  | none => rfl
  | some d => cases d <;> rfl
theorem f_tupleR : (biW .tuple [.ref n] S).wp Q Z = seqP (S.get n) fun xs => Q (.tup xs) S := by
  show (match seqOf S (.ref n) with
    | some xs => .ok (.tup xs) S
    | none => .no : R W).wp Q Z = _
  simp only [seqOf]
  cases S.get n with
  | none => rfl
  | some d => cases d <;> rfl
theorem f_intI : (biW .int [.int i] S).wp Q Z = Q (.int i) S := rfl
theorem f_intB {b : Bool} : (biW .int [.bl b] S).wp Q Z = Q (.int (if b then 1 else 0)) S := rfl
theorem f_min2 : (biW .min2 [.int i, .int j] S).wp Q Z = Q (.int (if j < i then j else i)) S := rfl
theorem f_max2 : (biW .max2 [.int i, .int j] S).wp Q Z = Q (.int (if j > i then j else i)) S := rfl
theorem f_str : (biW .str [.int i] S).wp Q Z = (i.natAbs < 10 ^ 30 ∧ Q (.str (toString i)) S) := by
  show (if _ then _ else _ : R W).wp Q Z = _
  rw [R.wp_ite]
  split <;> rename_i h <;> simp only [h, true_and, false_and, R.wp_ok, R.wp_no]
/-- of the kind that has the method -/
theorem kd_of_lst (h : S.get n = some (.lst xs)) : kd (.ref n) S = some .lst := by simp only [kd, h]
theorem kd_of_dct {kvs : List (Key × W)} (h : S.get n = some (.dct false kvs)) : kd (.ref n) S = some .dct := by simp only [kd, h]
def kdP (o : Option Nd) : Option Kd := match o with
  | some (.lst _) => some .lst
  | some (.dct false _) => some .dct
  | _ => none
theorem kd_ref : kd (.ref n) S = kdP (S.get n) := by
  rcases h : S.get n with _ | (_ | _ | ⟨_ | _, _⟩ | _) <;> simp [kd, kdP, h]
theorem kd_str' : kd (.str x) S = some .str := rfl
theorem kdP_lst : kdP (some (.lst xs)) = some .lst := rfl
theorem kdP_dct {kvs : List (Key × W)} : kdP (some (.dct false kvs)) = some .dct := rfl
theorem m_app : (bmW .append (.ref n) [v] S).wp Q Z = lstP (S.get n) fun xs => xs.length ≤ lim ∧ Q .non (S.put n (.lst (xs ++ [v]))) := by
  simp only [bmW]
  cases S.get n with
  | none => rfl
  | some d =>
    cases d with
    | lst xs =>
      simp only [lstP, R.wp_ite]
      split <;> rename_i h <;> simp only [h, true_and, false_and, R.wp_no] <;> rfl
    | _ => rfl
theorem m_pop : (bmW .pop (.ref n) [.int i] S).wp Q Z = match S.get n with
    | some (.lst xs) => (-100000 ≤ i ∧ i ≤ 100000) ∧ optP (ixN xs.length i) fun j => optP xs[j]? fun x => Q x (S.put n (.lst (xs.eraseIdx j)))
    | some (.dct false kvs) => optP (valW kvs (.inl i)) fun x => Q x (S.put n (.dct false (dropW kvs (.inl i))))
    | _ => False := by
  simp only [bmW]
  cases S.get n with
  | none => rfl
  | some d =>
    cases d with
    | lst xs =>
      simp only [R.wp_ite]
      split <;> rename_i h
      · simp only [h, true_and]
        cases ixN xs.length i with
        | none => rfl
        | some j => simp only [optP]; cases xs[j]? <;> rfl
      · simp only [h, false_and]; rfl
    | dct l kvs =>
      cases l with
      | true => rfl
      | false =>
        simp only [W.key, Bool.false_eq_true, if_false]
        cases valW kvs (.inl i) <;> rfl
    | _ => rfl
theorem m_clr : (bmW .clear (.ref n) [] S).wp Q Z = lstP (S.get n) fun xs => Q .non (S.put n (.lst [])) := by
  simp only [bmW]
  cases S.get n with
  | none => rfl
  | some d => cases d <;> rfl
theorem m_ins0 : (bmW .insert (.ref n) [.int 0, v] S).wp Q Z = lstP (S.get n) fun xs => xs.length ≤ lim ∧ Q .non (S.put n (.lst (v :: xs))) := by
  simp only [bmW]
  cases S.get n with
  | none => rfl
  | some d =>
    cases d with
    | lst xs =>
      simp only [lstP, R.wp_ite, true_and]
      split <;> rename_i h <;> simp only [h, true_and, false_and, R.wp_no] <;> rfl
    | _ => rfl
theorem m_dget : (bmW .get (.ref n) [w, v] S).wp Q Z = match S.get n with
    | some (.dct _ kvs) => keyP w.key fun k => Q ((valW kvs k).getD v) S
    | _ => False := by
  simp only [bmW]
  cases S.get n with
  | none => rfl
  | some d =>
    cases d with
    | dct l kvs => cases w.key <;> rfl
    | _ => rfl
end
/-! ### kinds -/
def tyI : Ty → Bool
  | .int => true
  | _ => false
def tyB : Ty → Bool
  | .int => true
  | .bool => true
  | _ => false
def tySt : Ty → Bool
  | .str => true
  | _ => false
def tyT : Ty → Bool
  | .tuple => true
  | _ => false
def tyL : Ty → Bool
  | .list => true
  | _ => false
def isiN (t : Ty) : Option Nd → Option Bool
  | some (.lst _) => some (tyL t)
  | some (.frz _) => some (tyL t)
  | some (.dct _ _) => some false
  | _ => none
section
variable {S : Sto} {t : Ty}
theorem isi_non : isiW t .non S = some false := by cases t <;> rfl
theorem isi_int {i : Int} : isiW t (.int i) S = some (tyI t) := by cases t <;> rfl
theorem isi_bl {i : Bool} : isiW t (.bl i) S = some (tyB t) := by cases t <;> rfl
theorem isi_str {i : Str} : isiW t (.str i) S = some (tySt t) := by cases t <;> rfl
theorem isi_tup {i : List W} : isiW t (.tup i) S = some (tyT t) := by cases t <;> rfl
theorem isi_ref {i : Nat} : isiW t (.ref i) S = isiN t (S.get i) := by
  cases t <;> (simp only [isiW, isiN]; cases S.get i with
    | none => rfl
    | some d => cases d <;> rfl)
theorem isiN_l {xs : List W} : isiN t (some (.lst xs)) = some (tyL t) := rfl
theorem isiN_f {xs : List W} : isiN t (some (.frz xs)) = some (tyL t) := rfl
theorem isiN_d {l : Bool} {xs : List (Key × W)} : isiN t (some (.dct l xs)) = some false := rfl
end
/-! ### statements -/
section
variable {c : Call} {σ : Env} {S : Sto} {N : Env → Sto → Prop} {V : W → Sto → Prop} {Z : Exc → Env → Sto → Prop} {e o i a b : E} {s t : D.S}
theorem x_nil : (exec c .nil σ S).wp N V Z = N σ S := rfl
theorem x_cons : (exec c (.cons s t) σ S).wp N V Z = (exec c s σ S).wp (fun σ S => (exec c t σ S).wp N V Z) V Z := by simp only [exec, RS.wp_then]
theorem x_pass : (exec c .pass σ S).wp N V Z = N σ S := rfl
theorem x_ex : (exec c (.ex e) σ S).wp N V Z = (eval c e σ S).wp (fun _ S => N σ S) (fun x S => Z x σ S) := by simp only [exec, R.wp_to]; rfl
theorem x_set {x : Nat} : (exec c (.set x e) σ S).wp N V Z = (eval c e σ S).wp (fun v S => N (σ.set x (some v)) S) (fun x S => Z x σ S) := by simp only [exec, R.wp_to]; rfl
def setAP (o : Option Nd) (f : Nm) (v : W) (k : Nd → Prop) : Prop := match o with
  | some (.ins c fs) => fs.length ≤ 900 ∧ k (.ins c (putf fs f v))
  | _ => False
theorem setA_ins {cl : Nm} {fs : List (Nm × W)} {f : Nm} {v : W} {k : Nd → Prop} : setAP (some (.ins cl fs)) f v k = (fs.length ≤ 900 ∧ k (.ins cl (putf fs f v))) := rfl
theorem setA_wp {w v : W} {f : Nm} {Q : Unit → Sto → Prop} {Z : Exc → Sto → Prop} : (setAW w f v S).wp Q Z = refP w fun n => setAP (S.get n) f v fun d => Q () (S.put n d) := by
  cases w with
  | ref n =>
    simp only [setAW, refP, setAP]
    cases S.get n with
    | none => rfl
    | some d =>
      cases d with
      | ins c fs =>
        simp only [R.wp_ite]
        split <;> rename_i h <;> simp only [h, true_and, false_and, R.wp_no] <;> rfl
      | _ => rfl
  | _ => rfl
theorem x_setA {f : Nm} : (exec c (.setA o f e) σ S).wp N V Z = (eval c e σ S).wp (fun v S => (eval c o σ S).wp (fun w S => refP w fun n => setAP (S.get n) f v fun d => N σ (S.put n d)) (fun x S => Z x σ S)) (fun x S => Z x σ S) := by
  simp only [exec, R.wp_to, setA_wp]; rfl
def setIP (o : Option Nd) (w v : W) (k : Nd → Prop) : Prop := match o with
  | some (.lst xs) => intP w fun i => optP (ixN xs.length i) fun j => k (.lst (xs.set j v))
  | some (.dct false kvs) => keyP w.key fun i => kvs.length ≤ lim ∧ k (.dct false (putW kvs i v))
  | _ => False
theorem setI_lst {xs : List W} {i : Int} {v : W} {k : Nd → Prop} : setIP (some (.lst xs)) (.int i) v k = optP (ixN xs.length i) fun j => k (.lst (xs.set j v)) := rfl
theorem setI_dct {kvs : List (Key × W)} {w v : W} {k : Nd → Prop} : setIP (some (.dct false kvs)) w v k = keyP w.key fun i => kvs.length ≤ lim ∧ k (.dct false (putW kvs i v)) := rfl
theorem setI_wp {w i v : W} {Q : Unit → Sto → Prop} {Z : Exc → Sto → Prop} : (setIW w i v S).wp Q Z = refP w fun n => setIP (S.get n) i v fun d => Q () (S.put n d) := by
  cases w with
  | ref n =>
    simp only [setIW, refP, setIP]
    cases S.get n with
    | none => rfl
    | some d =>
      cases d with
      | lst xs =>
        cases i with
        | int k => simp only [intP]; cases ixN xs.length k <;> rfl
        | _ => rfl
      | dct l kvs =>
        cases l with
        | true => rfl
        | false =>
          cases i.key with
          | none => rfl
          | some k =>
            simp only [keyP, R.wp_ite]
            split <;> rename_i h <;> simp only [h, true_and, false_and, R.wp_no] <;> rfl
      | _ => rfl
  | _ => rfl
theorem x_setI : (exec c (.setI o i e) σ S).wp N V Z = (eval c e σ S).wp (fun v S => (eval c o σ S).wp (fun w S => (eval c i σ S).wp (fun k S => refP w fun n => setIP (S.get n) k v fun d => N σ (S.put n d)) (fun x S => Z x σ S)) (fun x S => Z x σ S)) (fun x S => Z x σ S) := by
  simp only [exec, R.wp_to, setI_wp]; rfl
theorem x_setT {xs : List Nat} : (exec c (.setT xs e) σ S).wp N V Z = (eval c e σ S).wp (fun v S => tupP v fun vs => optP (setAll xs vs σ) fun σ => N σ S) (fun x S => Z x σ S) := by
  simp only [exec, R.wp_to]
  congr 1; funext v S
  cases v with
  | tup vs => simp only [tupP]; cases setAll xs vs σ <;> rfl
  | _ => rfl
theorem x_par {xs : List Nat} : (exec c (.par xs e) σ S).wp N V Z = (eval c e σ S).wp (fun v S => optP (setAll xs (tupOf v) σ) fun σ => N σ S) (fun x S => Z x σ S) := by
  simp only [exec, R.wp_to]
  congr 1; funext v S
  cases setAll xs (tupOf v) σ <;> rfl
theorem x_ite : (exec c (.ite e s t) σ S).wp N V Z = (eval c e σ S).wp (fun v S => blP v fun b => if b = true then (exec c s σ S).wp N V Z else (exec c t σ S).wp N V Z) (fun x S => Z x σ S) := by
  simp only [exec, R.wp_to]
  congr 1; funext x S; rcases x with _ | (_ | _) | _ | _ | _ | _ <;> rfl
theorem x_ret : (exec c (.ret e) σ S).wp N V Z = (eval c e σ S).wp V (fun x S => Z x σ S) := by simp only [exec, R.wp_to]; rfl
theorem x_retN : (exec c .retN σ S).wp N V Z = V .non S := rfl
theorem x_rse {k : Nm} : (exec c (.rse k) σ S).wp N V Z = Z ⟨k, none⟩ σ S := rfl
theorem x_tri {cs : List Nm} {k : Nm} {oo : Option Nat} : (exec c (.tri s cs k oo t) σ S).wp N V Z = (exec c s σ S).wp N V (fun x σ S => cs.contains x.cls = true ∧ (exec c t σ S).wp N V Z) := by
  simp only [exec]
  cases exec c s σ S with
  | ex x σ S =>
    simp only
    by_cases h : cs.contains x.cls = true
    · simp only [h, if_true]; simp only [RS.wp, h, true_and]
    · simp only [h, Bool.false_eq_true, if_false]; simp only [RS.wp, h, false_and, Bool.false_eq_true]
  | _ => rfl
/-! ### loops -/
theorem loop_vals {f : W → Env → Sto → RS} (I : Nat → Env → Sto → Prop) {xs : List W} (h0 : I 0 σ S) (hs : ∀ i x σ S, xs[i]? = some x → I i σ S → (f x σ S).wp (I (i + 1)) V Z) (hd : ∀ σ S, I xs.length σ S → N σ S) : (walkS f xs σ S).wp N V Z := by
  have key : ∀ (ys zs : List W) (σ : Env) (S : Sto), zs ++ ys = xs → I zs.length σ S → (walkS f ys σ S).wp N V Z := by
    intro ys
    induction ys with
    | nil =>
      intro zs σ S e h
      rw [List.append_nil] at e
      subst e
      exact hd σ S h
    | cons y ys ih =>
      intro zs σ S e h
      unfold walkS
      rw [RS.wp_then]
      refine RS.wp_mono (hs zs.length y σ S (by rw [← e]; simp) h) (fun σ S q => ih (zs ++ [y]) σ S (by simp [e]) (by simpa using q)) (fun _ _ z => z) (fun _ _ _ z => z)
  exact key xs [] σ S rfl h0
theorem loop_list {n : Nat} {f : Nat → W → Env → Sto → RS} (I : Nat → Env → Sto → Prop) {xs : List W} (h0 : I 0 σ S) (hl : ∀ i σ S, i ≤ xs.length → I i σ S → lstOf S (.ref n) = some xs) (hs : ∀ i x σ S, xs[i]? = some x → I i σ S → (f i x σ S).wp (I (i + 1)) V Z) (hd : ∀ σ S, I xs.length σ S → N σ S) :
    (walkLS n f xs.length 0 σ S).wp N V Z := by
  have key : ∀ (k i : Nat) (σ : Env) (S : Sto), i + k = xs.length → I i σ S → (walkLS n f k i σ S).wp N V Z := by
    intro k
    induction k with
    | zero =>
      intro i σ S e h
      have e : i = xs.length := by omega
      subst e
      unfold walkLS
      rw [hl _ σ S (Nat.le_refl _) h]
      simp only [Nat.le_refl, if_true]
      exact hd σ S h
    | succ k ih =>
      intro i σ S e h
      have hi : i < xs.length := by omega
      unfold walkLS
      rw [hl _ σ S (by omega) h]
      simp only [List.getElem?_eq_getElem hi, RS.wp_then]
      refine RS.wp_mono (hs i _ σ S (List.getElem?_eq_getElem hi) h) (fun σ S q => ih (i + 1) σ S (by omega) q) (fun _ _ z => z) (fun _ _ _ z => z)
  exact key xs.length 0 σ S (by omega) h0
/-- a loop over a tuple's values, a range -/
theorem x_forT {xs : List Nat} {one : Bool} : (eval c e σ S).wp (fun v S1 => tupP v fun vs => (walkS (turnOf c xs one s) vs σ S1).wp N V Z) (fun x S => Z x σ S) → (exec c (.for_ xs one e s) σ S).wp N V Z := by
  intro h
  simp only [exec, R.wp_to]
  cases q : eval c e σ S with
  | no => rw [q] at h; exact h
  | ex x S1 => rw [q] at h; exact h
  | ok v S1 =>
    rw [q] at h
    cases v with
    | tup vs => exact h
    | _ => exact False.elim h
/-- a loop over a list -/
theorem x_forL {xs : List Nat} {one : Bool} : (eval c e σ S).wp (fun v S1 => refP v fun n => isDct S (.ref n) = none ∧ optP (lstOf S1 (.ref n)) fun vs => (walkLS n (fun _ => turnOf c xs one s) vs.length 0 σ S1).wp N V Z) (fun x S => Z x σ S) → (exec c (.for_ xs one e s) σ S).wp N V Z := by
  intro h
  simp only [exec, R.wp_to]
  cases q : eval c e σ S with
  | no => rw [q] at h; exact h
  | ex x S1 => rw [q] at h; exact h
  | ok v S1 =>
    rw [q] at h
    cases v with
    | ref n =>
      obtain ⟨h1, h2⟩ := h
      show RS.wp _ N V Z
      rw [h1]
      show RS.wp _ N V Z
      simp only [iterW, lstOf] at h2 ⊢
      cases g : S1.get n with
      | none => rw [g] at h2; exact False.elim h2
      | some d =>
        rw [g] at h2
        cases d with
        | lst vs => exact h2
        | frz vs => exact h2
        | _ => exact False.elim h2
    | _ => exact False.elim h
theorem x_forE {i' x : Nat} : (exec c (.forE i' x e s) σ S).wp N V Z = (eval c e σ S).wp (fun v S1 => refP v fun n => optP (lstOf S1 (.ref n)) fun vs => (walkLS n (fun k y σ S => exec c s ((σ.set i' (some (.int k))).set x (some y)) S) vs.length 0 σ S1).wp N V Z) (fun x S => Z x σ S) := by
  simp only [exec, R.wp_to]
  congr 1; funext v S1
  cases v with
  | ref n => simp only [refP]; cases lstOf S1 (.ref n) <;> rfl
  | _ => rfl
theorem x_whl : (exec c (.whl e s) σ S).wp N V Z = (whlF (fun σ S => eval c e σ S) (fun σ S => exec c s σ S) fuel σ S).wp N V Z := rfl
theorem loop_whl {t : Env → Sto → R W} {f : Env → Sto → RS} (I : Nat → Env → Sto → Prop) (m : Nat) (h0 : I m σ S) (hs : ∀ k σ S, k ≤ m → I k σ S → (t σ S).wp (fun v S => blP v fun b => if b = true then (f σ S).wp (fun σ S => ∃ j, j < k ∧ I j σ S) V Z else N σ S) (fun x S => Z x σ S)) {F : Nat} (hF : m < F) : (whlF t f F σ S).wp N V Z := by
  have key : ∀ (F k : Nat) (σ : Env) (S : Sto), k < F → k ≤ m → I k σ S → (whlF t f F σ S).wp N V Z := by
    intro F
    induction F with
    | zero => intro k σ S h; exact absurd h (Nat.not_lt_zero k)
    | succ F ih =>
      intro k σ S hk hm h
      unfold whlF
      rw [R.wp_to]
      refine R.wp_mono (hs k σ S hm h) (fun v S q => ?_) (fun _ _ z => z)
      rcases v with _ | (_ | _) | _ | _ | _ | _ <;> first | exact False.elim q | exact q | skip
      simp only [blP, if_true] at q
      rw [RS.wp_then]
      exact RS.wp_mono q (fun σ S ⟨j, hj, g⟩ => ih j σ S (by omega) (by omega) g) (fun _ _ z => z) (fun _ _ _ z => z)
  exact key F m σ S hF (Nat.le_refl m) h0
theorem turn_wp {xs : List Nat} {one : Bool} {x : W} : (turnOf c xs one s x σ S).wp N V Z = optP (takeT xs one x σ) fun σ => (exec c s σ S).wp N V Z := by
  unfold turnOf
  cases takeT xs one x σ <;> rfl
theorem take_one {i : Nat} {v : W} : takeT [i] true v σ = some (σ.set i (some v)) := rfl
theorem take_tup {xs : List Nat} {vs : List W} : takeT xs false (.tup vs) σ = setAll xs vs σ := rfl
theorem setAll_nil : setAll [] [] σ = some σ := rfl
theorem setAll_cons {i : Nat} {is : List Nat} {v : W} {vs : List W} : setAll (i :: is) (v :: vs) σ = setAll is vs (σ.set i (some v)) := rfl
end
/-! ### calls -/
theorem run_wp {T : Tab} {k : Nat} {f : Fk} {as : List W} {S : Sto} {d : Df} {Q : W → Sto → Prop} {Z : Exc → Sto → Prop} (h : T f = some d) (hl : as.length = d.np) (p : (exec (run T k) d.body (as.map some ++ List.replicate (d.N.length - d.np) none) S).wp (fun _ S => Q .non S) Q (fun x _ S => Z x S)) : (run T (k + 1) f as S).wp Q Z := by
  simp only [run, h, if_pos hl]
  cases e : exec (run T k) d.body (as.map some ++ List.replicate (d.N.length - d.np) none) S with
  | nx σ S => rw [e] at p; exact p
  | rt v S => rw [e] at p; exact p
  | ex x σ S => rw [e] at p; exact p
  | no => rw [e] at p; exact p
end D
end

section
/-! The plain layer: the rules once more, what follows held by names (no step is taken ahead of its turn). -/
namespace D
open PySem L2
abbrev PQ := W → Sto → Prop
abbrev PZ := Exc → Sto → Prop
abbrev PN := Env → Sto → Prop
abbrev PX := Exc → Env → Sto → Prop
def noZ : PZ := fun _ _ => False
def noX : PX := fun _ _ _ => False
def zE (Z : PX) (σ : Env) : PZ := fun x S => Z x σ S
def zF (Z : PZ) : PX := fun x _ S => Z x S
def kEnd (Q : PQ) : PN := fun _ S => Q .non S
section
variable (c : Call) (σ : Env) (Q : PQ) (Z : PZ)
def kE2 (b : E) (Q2 : W → PQ) : PQ := fun x S => (eval c b σ S).wp (Q2 x) Z
def kBin (o : Bo) (x : W) : PQ := fun y S => (binW o x y S).wp Q Z
def kCmp (o : Co) (x : W) : PQ := fun y S => (cmpW o x y S).wp Q Z
def kIx (x : W) : PQ := fun y S => (itemW x y S).wp Q Z
def kCons (x : W) : PQ := fun t S => Q (.tup (x :: tupOf t)) S
def kRng2 (x : W) : PQ := fun y S => intP x fun i => intP y fun j => (-100000 ≤ i ∧ i ≤ 100000 ∧ -100000 ≤ j ∧ j ≤ 100000) ∧ Q (.tup (rangeW i j)) S
def kKv1 (x y : W) : PQ := fun t S => Q (.tup (.tup [x, y] :: tupOf t)) S
def kKv (d : E) (x : W) : PQ := fun y S => (eval c d σ S).wp (kKv1 Q x y) Z
def kNeg : PQ := fun x S => intP x fun i => Q (.int (-i)) S
def kNt : PQ := fun x S => blP x fun i => Q (.bl (!i)) S
def selP (p : Prop) (A B : Prop) : Prop := (p → A) ∧ (¬p → B)
def ifAnd (b : E) (S : Sto) (p : Prop) : Prop := selP p ((eval c b σ S).wp Q Z) (Q (.bl false) S)
def kAnd (b : E) : PQ := fun x S => blP x fun i => ifAnd c σ Q Z b S (i = true)
def ifOr (b : E) (S : Sto) (p : Prop) : Prop := selP p (Q (.bl true) S) ((eval c b σ S).wp Q Z)
def kOr (b : E) : PQ := fun x S => blP x fun i => ifOr c σ Q Z b S (i = true)
def ifIfe (b d : E) (S : Sto) (p : Prop) : Prop := selP p ((eval c b σ S).wp Q Z) ((eval c d σ S).wp Q Z)
def kIfe (b d : E) : PQ := fun x S => blP x fun i => ifIfe c σ Q Z b d S (i = true)
def ifCh (o : Co) (y : W) (d : E) (S : Sto) (p : Prop) : Prop := selP p ((eval c d σ S).wp (kCmp Q Z o y) Z) (Q (.bl false) S)
def kCh1 (p : Co) (y : W) (d : E) : PQ := fun k S => blP k fun i => ifCh c σ Q Z p y d S (i = true)
def kCh (o p : Co) (d : E) (x : W) : PQ := fun y S => (cmpW o x y S).wp (kCh1 c σ Q Z p y d) Z
def kCall (f : Nm) : PQ := fun t S => (c (.fn f) (tupOf t) S).wp Q Z
def kNew1 (n : Nat) : PQ := fun v S => nonP v (Q (.ref n) S)
def kNew (k : Nm) : PQ := fun t S => (c (.me k .d_init) (.ref S.next :: tupOf t) (S.new (.ins k []))).wp (kNew1 Q S.next) Z
def kMe2 (k m : Nm) (n : Nat) : PQ := fun t S => (c (.me k m) (.ref n :: tupOf t) S).wp Q Z
def kMe1 (m : Nm) (as : E) (S : Sto) (n : Nat) (o : Option Nd) : Prop := insP o fun k fs => fld fs m = none ∧ (eval c as σ S).wp (kMe2 c Q Z k m n) noZ
def kMe (m : Nm) (as : E) : PQ := fun v S => refP v fun n => kMe1 c σ Q Z m as S n (S.get n)
def kBi (f : Bi) : PQ := fun t S => (biW f (tupOf t) S).wp Q Z
def kBm2 (m : Bm) (v : W) (k : Kd) : PQ := fun t S => kd v S = some k ∧ (bmW m v (tupOf t) S).wp Q Z
def kBm1 (m : Bm) (as : E) (S : Sto) (v : W) (o : Option Kd) : Prop := optP o fun k => fitK m k = true ∧ (eval c as σ S).wp (kBm2 Q Z m v k) Z
def kBm (m : Bm) (as : E) : PQ := fun v S => kBm1 c σ Q Z m as S v (kd v S)
def kOpt (S : Sto) (o : Option W) : Prop := optP o fun x => Q x S
def kBl (S : Sto) (o : Option Bool) : Prop := optP o fun x => Q (.bl x) S
def kNBl (S : Sto) (o : Option Bool) : Prop := optP o fun x => Q (.bl (!x)) S
def kAt1 (f : Nm) (S : Sto) (o : Option Nd) : Prop := insP o fun _ fs => kOpt Q S (fld fs f)
def kAt (f : Nm) : PQ := fun v S => refP v fun n => kAt1 Q f S (S.get n)
def kInt (K : Option Int → Sto → Prop) : PQ := fun v S => intP v fun i => K (some i) S
def evP (e : E) (S : Sto) (K : Option Int → Sto → Prop) (b : Bool) : Prop := if b = true then K none S else (eval c e σ S).wp (kInt K) Z
def kSl2 (x : W) (l : Option Int) : Option Int → Sto → Prop := fun h S => (sliceW x l h S).wp Q Z
def kSl1 (hi : E) (x : W) : Option Int → Sto → Prop := fun l S => evP c σ Z hi S (kSl2 Q Z x l) (isNo hi)
def kSl (lo hi : E) : PQ := fun x S => evP c σ Z lo S (kSl1 c σ Q Z hi x) (isNo lo)
def kRev1 (S : Sto) (o : Option Nd) : Prop := lstP o fun xs => Q (.ref S.next) (S.new (.lst xs.reverse))
def kRev : PQ := fun v S => refP v fun n => kRev1 Q S (S.get n)
def kLst : PQ := fun t S => Q (.ref S.next) (S.new (.lst (tupOf t)))
def kDct2 (n : Nat) (S : Sto) (o : Option (List (Key × W))) : Prop := optP o fun ps => ps.length ≤ 15 ∧ Q (.ref n) (S.put n (.dct false (mergeW [] ps)))
def kDct1 (n : Nat) (t : W) (S : Sto) (o : Option Nd) : Prop := dctP o fun kvs => kvs = [] ∧ kDct2 Q n S (pairsOf (tupOf t))
def kDct (n : Nat) : PQ := fun t S => kDct1 Q n t S (S.get n)
def kIsi (t : Ty) : PQ := fun x S => kBl Q S (isiW t x S)
def kRng1 : PQ := fun x S => intP x fun n => (-100000 ≤ n ∧ n ≤ 100000) ∧ Q (.tup (rangeW 0 n)) S
def kItm (S : Sto) (w : W) (o : Option Nd) : Prop := itmP o w fun x => Q x S
def kItK (S : Sto) (kvs : List (Key × W)) (o : Option Key) : Prop := keyP o fun i => kOpt Q S (valW kvs i)
def kLst1 (S : Sto) (f : List W → List W) (o : Option Nd) : Prop := lstP o fun xs => Q (.ref S.next) (S.new (.lst (f xs)))
def kAddL2 (S : Sto) (xs : List W) (o : Option Nd) : Prop := lstP o fun ys => xs.length + ys.length ≤ lim ∧ Q (.ref S.next) (S.new (.lst (xs ++ ys)))
def kAddL (S : Sto) (m : Option Nd) (o : Option Nd) : Prop := lstP o fun xs => kAddL2 Q S xs m
def kMulL (S : Sto) (i : Int) (o : Option Nd) : Prop := lstP o fun xs => (-1000 ≤ i ∧ i ≤ 1000 ∧ xs.length ≤ 1000) ∧ Q (.ref S.next) (S.new (.lst (List.replicate i.toNat xs).flatten))
def kLen (S : Sto) (o : Option Nd) : Prop := lenP o fun k => Q (.int k) S
def kSeqL (S : Sto) (o : Option Nd) : Prop := seqP o fun xs => Q (.ref S.next) (S.new (.lst xs))
def kSeqT (S : Sto) (o : Option Nd) : Prop := seqP o fun xs => Q (.tup xs) S
def kApp (S : Sto) (n : Nat) (v : W) (o : Option Nd) : Prop := lstP o fun xs => xs.length ≤ lim ∧ Q .non (S.put n (.lst (xs ++ [v])))
def kIns (S : Sto) (n : Nat) (v : W) (o : Option Nd) : Prop := lstP o fun xs => xs.length ≤ lim ∧ Q .non (S.put n (.lst (v :: xs)))
def kClr (S : Sto) (n : Nat) (o : Option Nd) : Prop := lstP o fun _ => Q .non (S.put n (.lst []))
def kPop2 (S : Sto) (n j : Nat) (xs : List W) (o : Option W) : Prop := optP o fun x => Q x (S.put n (.lst (xs.eraseIdx j)))
def kPop1 (S : Sto) (n : Nat) (xs : List W) (o : Option Nat) : Prop := optP o fun j => kPop2 Q S n j xs xs[j]?
def kPopD (S : Sto) (n : Nat) (i : Key) (kvs : List (Key × W)) (o : Option W) : Prop := optP o fun x => Q x (S.put n (.dct false (dropW kvs i)))
def kPop (S : Sto) (n : Nat) (i : Int) (o : Option Nd) : Prop := match o with
    | some (.lst xs) => (-100000 ≤ i ∧ i ≤ 100000) ∧ kPop1 Q S n xs (ixN xs.length i)
    | some (.dct false kvs) => kPopD Q S n (.inl i) kvs (valW kvs (.inl i))
    | _ => False
def kGet (S : Sto) (w v : W) (o : Option Nd) : Prop := match o with
    | some (.dct _ kvs) => keyP w.key fun k => Q ((valW kvs k).getD v) S
    | _ => False
variable (N : PN) (V : PQ) (X : PX)
def kSeq (t : S) : PN := fun σ S => (exec c t σ S).wp N V X
def kDrop : PQ := fun _ S => N σ S
def kSet (x : Nat) : PQ := fun v S => N (σ.set x (some v)) S
def kSA2 (f : Nm) (v : W) (S : Sto) (n : Nat) (o : Option Nd) : Prop := setAP o f v fun d => N σ (S.put n d)
def kSA1 (f : Nm) (v : W) : PQ := fun w S => refP w fun n => kSA2 σ N f v S n (S.get n)
def kSA (o : E) (f : Nm) : PQ := fun v S => (eval c o σ S).wp (kSA1 σ N f v) (zE X σ)
def kSI3 (k v : W) (S : Sto) (n : Nat) (o : Option Nd) : Prop := setIP o k v fun d => N σ (S.put n d)
def kSIl (S : Sto) (n : Nat) (xs : List W) (v : W) (o : Option Nat) : Prop := optP o fun j => N σ (S.put n (.lst (xs.set j v)))
def kSI2 (v w : W) : PQ := fun k S => refP w fun n => kSI3 σ N k v S n (S.get n)
def kSI1 (i : E) (v : W) : PQ := fun w S => (eval c i σ S).wp (kSI2 σ N v w) (zE X σ)
def kSI (o i : E) : PQ := fun v S => (eval c o σ S).wp (kSI1 c σ N X i v) (zE X σ)
def kEnv (S : Sto) (o : Option Env) : Prop := optP o fun σ => N σ S
def kST (xs : List Nat) : PQ := fun v S => tupP v fun vs => kEnv N S (setAll xs vs σ)
def kPar (xs : List Nat) : PQ := fun v S => kEnv N S (setAll xs (tupOf v) σ)
def ifS (s t : S) (S : Sto) (p : Prop) : Prop := selP p ((exec c s σ S).wp N V X) ((exec c t σ S).wp N V X)
def kIte (s t : S) : PQ := fun v S => blP v fun b => ifS c σ N V X s t S (b = true)
def kTri (cs : List Nm) (t : S) : PX := fun x σ S => cs.contains x.cls = true ∧ (exec c t σ S).wp N V X
def kForE1 (i x : Nat) (s : S) (S : Sto) (n : Nat) (o : Option (List W)) : Prop := optP o fun vs => (walkLS n (fun k y σ S => exec c s ((σ.set i (some (.int k))).set x (some y)) S) vs.length 0 σ S).wp N V X
def kForT (xs : List Nat) (one : Bool) (s : S) : PQ := fun v S1 => tupP v fun vs => (walkS (turnOf c xs one s) vs σ S1).wp N V X
def kForL (xs : List Nat) (one : Bool) (s : S) (S0 : Sto) : PQ := fun v S1 => refP v fun n => isDct S0 (.ref n) = none ∧ optP (lstOf S1 (.ref n)) fun vs => (walkLS n (fun _ => turnOf c xs one s) vs.length 0 σ S1).wp N V X
def kForE (i x : Nat) (s : S) : PQ := fun v S1 => refP v fun n => optP (lstOf S1 (.ref n)) fun vs => (walkLS n (fun k y σ S => exec c s ((σ.set i (some (.int k))).set x (some y)) S) vs.length 0 σ S1).wp N V X
def kTurn (s : S) (S : Sto) (o : Option Env) : Prop := optP o fun σ => (exec c s σ S).wp N V X
end
theorem sel_if {p A B : Prop} [Decidable p] : (if p then A else B) = selP p A B := by
  unfold selP
  by_cases h : p <;> simp [h]
theorem sel_t {A B : Prop} : selP True A B = A := by simp [selP]
theorem sel_f {A B : Prop} : selP False A B = B := by simp [selP]
theorem sel_i {p A B : Prop} (h1 : p → A) (h2 : ¬p → B) : selP p A B := ⟨h1, h2⟩
section
variable {c : Call} {σ : Env} {S : Sto} {Q : PQ} {Z : PZ} {a b d : E}
theorem q_bin {o : Bo} : (eval c (.bin o a b) σ S).wp Q Z = (eval c a σ S).wp (kE2 c σ Z b (kBin Q Z o)) Z := e_bin
theorem q_neg : (eval c (.neg a) σ S).wp Q Z = (eval c a σ S).wp (kNeg Q) Z := e_neg
theorem q_nt : (eval c (.nt a) σ S).wp Q Z = (eval c a σ S).wp (kNt Q) Z := e_nt
theorem q_and : (eval c (.and a b) σ S).wp Q Z = (eval c a σ S).wp (kAnd c σ Q Z b) Z := by
  rw [e_and]; congr 1; funext x S; unfold kAnd ifAnd; congr 1; funext i; rw [← sel_if]
theorem q_or : (eval c (.or a b) σ S).wp Q Z = (eval c a σ S).wp (kOr c σ Q Z b) Z := by
  rw [e_or]; congr 1; funext x S; unfold kOr ifOr; congr 1; funext i; rw [← sel_if]
theorem q_cmp {o : Co} : (eval c (.cmp o a b) σ S).wp Q Z = (eval c a σ S).wp (kE2 c σ Z b (kCmp Q Z o)) Z := e_cmp
theorem q_chain {o p : Co} : (eval c (.chain o p a b d) σ S).wp Q Z = (eval c a σ S).wp (kE2 c σ Z b (kCh c σ Q Z o p d)) Z := by
  rw [e_chain]; congr 1; funext x S; unfold kE2; congr 1; funext y S; unfold kCh; congr 1; funext k S; unfold kCh1 ifCh; congr 1; funext i; rw [← sel_if]; rfl
theorem q_ife : (eval c (.ife a b d) σ S).wp Q Z = (eval c a σ S).wp (kIfe c σ Q Z b d) Z := by
  rw [e_ife]; congr 1; funext x S; unfold kIfe ifIfe; congr 1; funext i; rw [← sel_if]
theorem q_call {f : Nm} : (eval c (.call f a) σ S).wp Q Z = (eval c a σ S).wp (kCall c Q Z f) Z := e_call
theorem q_new {k : Nm} : (eval c (.new k a) σ S).wp Q Z = (eval c a σ S).wp (kNew c Q Z k) Z := e_new
theorem q_meth {m : Nm} : (eval c (.meth a m b) σ S).wp Q Z = (eval c a σ S).wp (kMe c σ Q Z m b) Z := e_meth
theorem q_bi {f : Bi} : (eval c (.bi f a) σ S).wp Q Z = (eval c a σ S).wp (kBi Q Z f) Z := e_bi
theorem q_bm {m : Bm} : (eval c (.bm m a b) σ S).wp Q Z = (eval c a σ S).wp (kBm c σ Q Z m b) Z := e_bm
theorem q_attr {f : Nm} : (eval c (.attr a f) σ S).wp Q Z = (eval c a σ S).wp (kAt Q f) Z := e_attr
theorem q_ix : (eval c (.ix a b) σ S).wp Q Z = (eval c a σ S).wp (kE2 c σ Z b (kIx Q Z)) Z := e_ix
theorem q_sl {lo hi : E} : (eval c (.sl a lo hi) σ S).wp Q Z = (eval c a σ S).wp (kSl c σ Q Z lo hi) Z := e_sl
theorem q_rev : (eval c (.rev a) σ S).wp Q Z = (eval c a σ S).wp (kRev Q) Z := e_rev
theorem q_lst : (eval c (.lst a) σ S).wp Q Z = (eval c a σ S).wp (kLst Q) Z := e_lst
theorem q_dctk {k v r : E} : (eval c (.dct (.kv k v r)) σ S).wp Q Z = (eval c (.kv k v r) σ (S.new (.dct false []))).wp (kDct Q S.next) Z := e_dctk
theorem q_isi {t : Ty} : (eval c (.isi a t) σ S).wp Q Z = (eval c a σ S).wp (kIsi Q t) Z := e_isi
theorem q_rng1 : (eval c (.rng1 a) σ S).wp Q Z = (eval c a σ S).wp (kRng1 Q) Z := e_rng1
theorem q_rng2 : (eval c (.rng2 a b) σ S).wp Q Z = (eval c a σ S).wp (kE2 c σ Z b (kRng2 Q)) Z := e_rng2
theorem q_cons : (eval c (.cons a b) σ S).wp Q Z = (eval c a σ S).wp (kE2 c σ Z b (kCons Q)) Z := e_cons
theorem q_kv : (eval c (.kv a b d) σ S).wp Q Z = (eval c a σ S).wp (kE2 c σ Z b (kKv c σ Q Z d)) Z := e_kv
variable {x y : W} {i j : Int} {t : Bool} {xs ys : List W} {n : Nat}
theorem k_E2 {Q2 : W → PQ} : kE2 c σ Z b Q2 x S = (eval c b σ S).wp (Q2 x) Z := rfl
theorem k_Bin {o : Bo} : kBin Q Z o x y S = (binW o x y S).wp Q Z := rfl
theorem k_Cmp {o : Co} : kCmp Q Z o x y S = (cmpW o x y S).wp Q Z := rfl
theorem k_Ix : kIx Q Z x y S = (itemW x y S).wp Q Z := rfl
theorem k_Cons : kCons Q x (.tup xs) S = Q (.tup (x :: xs)) S := rfl
theorem k_Rng2 : kRng2 Q (.int i) (.int j) S = ((-100000 ≤ i ∧ i ≤ 100000 ∧ -100000 ≤ j ∧ j ≤ 100000) ∧ Q (.tup (rangeW i j)) S) := rfl
theorem k_Kv1 : kKv1 Q x y (.tup xs) S = Q (.tup (.tup [x, y] :: xs)) S := rfl
theorem k_Kv : kKv c σ Q Z d x y S = (eval c d σ S).wp (kKv1 Q x y) Z := rfl
theorem k_Neg : kNeg Q (.int i) S = Q (.int (-i)) S := rfl
theorem k_Nt : kNt Q (.bl t) S = Q (.bl (!t)) S := rfl
theorem k_And : kAnd c σ Q Z b (.bl t) S = ifAnd c σ Q Z b S (t = true) := rfl
theorem i_And : ifAnd c σ Q Z b S True = (eval c b σ S).wp Q Z := sel_t
theorem i_AndF : ifAnd c σ Q Z b S False = Q (.bl false) S := sel_f
theorem k_Or : kOr c σ Q Z b (.bl t) S = ifOr c σ Q Z b S (t = true) := rfl
theorem i_Or : ifOr c σ Q Z b S True = Q (.bl true) S := sel_t
theorem i_OrF : ifOr c σ Q Z b S False = (eval c b σ S).wp Q Z := sel_f
theorem k_Ife : kIfe c σ Q Z b d (.bl t) S = ifIfe c σ Q Z b d S (t = true) := rfl
theorem i_Ife : ifIfe c σ Q Z b d S True = (eval c b σ S).wp Q Z := sel_t
theorem i_IfeF : ifIfe c σ Q Z b d S False = (eval c d σ S).wp Q Z := sel_f
theorem k_Ch {o p : Co} : kCh c σ Q Z o p d x y S = (cmpW o x y S).wp (kCh1 c σ Q Z p y d) Z := rfl
theorem k_Ch1 {p : Co} : kCh1 c σ Q Z p y d (.bl t) S = ifCh c σ Q Z p y d S (t = true) := rfl
theorem i_Ch {p : Co} : ifCh c σ Q Z p y d S True = (eval c d σ S).wp (kCmp Q Z p y) Z := sel_t
theorem i_ChF {p : Co} : ifCh c σ Q Z p y d S False = Q (.bl false) S := sel_f
theorem k_Call {f : Nm} : kCall c Q Z f (.tup xs) S = (c (.fn f) xs S).wp Q Z := rfl
theorem k_New {k : Nm} : kNew c Q Z k (.tup xs) S = (c (.me k .d_init) (.ref S.next :: xs) (S.new (.ins k []))).wp (kNew1 Q S.next) Z := rfl
theorem k_New1 : kNew1 Q n .non S = Q (.ref n) S := rfl
theorem k_Me {m : Nm} : kMe c σ Q Z m b (.ref n) S = kMe1 c σ Q Z m b S n (S.get n) := rfl
theorem k_Me1 {m k : Nm} {fs : List (Nm × W)} : kMe1 c σ Q Z m b S n (some (.ins k fs)) = (fld fs m = none ∧ (eval c b σ S).wp (kMe2 c Q Z k m n) noZ) := rfl
theorem k_Me2 {m k : Nm} : kMe2 c Q Z k m n (.tup xs) S = (c (.me k m) (.ref n :: xs) S).wp Q Z := rfl
theorem k_Bi {f : Bi} : kBi Q Z f (.tup xs) S = (biW f xs S).wp Q Z := rfl
theorem k_Bm {m : Bm} : kBm c σ Q Z m b x S = kBm1 c σ Q Z m b S x (kd x S) := rfl
theorem k_Bm1 {m : Bm} {k : Kd} : kBm1 c σ Q Z m b S x (some k) = (fitK m k = true ∧ (eval c b σ S).wp (kBm2 Q Z m x k) Z) := rfl
theorem k_Bm2 {m : Bm} {k : Kd} : kBm2 Q Z m x k (.tup xs) S = (kd x S = some k ∧ (bmW m x xs S).wp Q Z) := rfl
theorem k_Opt : kOpt Q S (some x) = Q x S := rfl
theorem k_Bl : kBl Q S (some t) = Q (.bl t) S := rfl
theorem k_NBl : kNBl Q S (some t) = Q (.bl (!t)) S := rfl
theorem k_At {f : Nm} : kAt Q f (.ref n) S = kAt1 Q f S (S.get n) := rfl
theorem k_At1 {f k : Nm} {fs : List (Nm × W)} : kAt1 Q f S (some (.ins k fs)) = kOpt Q S (fld fs f) := rfl
theorem k_Int {K : Option Int → Sto → Prop} : kInt K (.int i) S = K (some i) S := rfl
theorem k_Sl {lo hi : E} : kSl c σ Q Z lo hi x S = evP c σ Z lo S (kSl1 c σ Q Z hi x) (isNo lo) := rfl
theorem k_Sl1 {hi : E} {l : Option Int} : kSl1 c σ Q Z hi x l S = evP c σ Z hi S (kSl2 Q Z x l) (isNo hi) := rfl
theorem k_Sl2 {l h : Option Int} : kSl2 Q Z x l h S = (sliceW x l h S).wp Q Z := rfl
theorem ev_t {K : Option Int → Sto → Prop} : evP c σ Z b S K true = K none S := rfl
theorem ev_f {K : Option Int → Sto → Prop} : evP c σ Z b S K false = (eval c b σ S).wp (kInt K) Z := rfl
theorem k_Rev : kRev Q (.ref n) S = kRev1 Q S (S.get n) := rfl
theorem k_Rev1 : kRev1 Q S (some (.lst xs)) = Q (.ref S.next) (S.new (.lst xs.reverse)) := rfl
theorem k_Lst : kLst Q (.tup xs) S = Q (.ref S.next) (S.new (.lst xs)) := rfl
theorem k_Dct : kDct Q n (.tup xs) S = kDct1 Q n (.tup xs) S (S.get n) := rfl
theorem k_Dct1 : kDct1 Q n (.tup xs) S (some (.dct false [])) = kDct2 Q n S (pairsOf xs) := by
  unfold kDct1; simp [dctP, tupOf]
theorem k_Dct2 {ps : List (Key × W)} : kDct2 Q n S (some ps) = (ps.length ≤ 15 ∧ Q (.ref n) (S.put n (.dct false (mergeW [] ps)))) := rfl
theorem k_Isi {t : Ty} : kIsi Q t x S = kBl Q S (isiW t x S) := rfl
theorem k_Rng1 : kRng1 Q (.int i) S = ((-100000 ≤ i ∧ i ≤ 100000) ∧ Q (.tup (rangeW 0 i)) S) := rfl
theorem g_eq : (cmpW .eq x y S).wp Q Z = kBl Q S (eqW S x y) := c_eq
theorem g_ne : (cmpW .ne x y S).wp Q Z = kNBl Q S (eqW S x y) := c_ne
theorem g_in : (cmpW .inn x y S).wp Q Z = kBl Q S (inW S x y) := c_in
theorem g_nin : (cmpW .nin x y S).wp Q Z = kNBl Q S (inW S x y) := c_nin
theorem g_ixT : (itemW (.tup xs) (.int i) S).wp Q Z = kOpt Q S (atI xs i) := i_tup
theorem g_ixR : (itemW (.ref n) x S).wp Q Z = kItm Q S x (S.get n) := i_ref
theorem k_ItmL : kItm Q S (.int i) (some (.lst xs)) = kOpt Q S (atI xs i) := rfl
theorem k_ItmD {l : Bool} {kvs : List (Key × W)} : kItm Q S x (some (.dct l kvs)) = kItK Q S kvs x.key := rfl
theorem k_ItK {kvs : List (Key × W)} {k : Key} : kItK Q S kvs (some k) = kOpt Q S (valW kvs k) := rfl
theorem w_keyI : (W.int i).key = some (.inl i) := rfl
theorem w_keyS {z : Str} : (W.str z).key = some (.inr z) := rfl
theorem g_slR {l h : Option Int} : (sliceW (.ref n) l h S).wp Q Z = kLst1 Q S (fun xs => cutW xs l h) (S.get n) := s_ref
theorem k_Lst1 {f : List W → List W} : kLst1 Q S f (some (.lst xs)) = Q (.ref S.next) (S.new (.lst (f xs))) := rfl
theorem g_addL {m : Nat} : (binW .add (.ref n) (.ref m) S).wp Q Z = kAddL Q S (S.get m) (S.get n) := b_addL
theorem k_AddL : kAddL Q S (some (.lst ys)) (some (.lst xs)) = (xs.length + ys.length ≤ lim ∧ Q (.ref S.next) (S.new (.lst (xs ++ ys)))) := rfl
theorem g_mulL : (binW .mul (.ref n) (.int i) S).wp Q Z = kMulL Q S i (S.get n) := b_mulL
theorem k_MulL : kMulL Q S i (some (.lst xs)) = ((-1000 ≤ i ∧ i ≤ 1000 ∧ xs.length ≤ 1000) ∧ Q (.ref S.next) (S.new (.lst (List.replicate i.toNat xs).flatten))) := rfl
theorem g_lenR : (biW .len [.ref n] S).wp Q Z = kLen Q S (S.get n) := f_lenR
theorem k_LenL : kLen Q S (some (.lst xs)) = Q (.int xs.length) S := rfl
theorem k_LenF : kLen Q S (some (.frz xs)) = Q (.int xs.length) S := rfl
theorem k_LenD {kvs : List (Key × W)} : kLen Q S (some (.dct false kvs)) = Q (.int kvs.length) S := rfl
theorem g_listR : (biW .list [.ref n] S).wp Q Z = kSeqL Q S (S.get n) := f_listR
theorem k_SeqLL : kSeqL Q S (some (.lst xs)) = Q (.ref S.next) (S.new (.lst xs)) := rfl
theorem k_SeqLF : kSeqL Q S (some (.frz xs)) = Q (.ref S.next) (S.new (.lst xs)) := rfl
theorem g_tupR : (biW .tuple [.ref n] S).wp Q Z = kSeqT Q S (S.get n) := f_tupleR
theorem k_SeqTL : kSeqT Q S (some (.lst xs)) = Q (.tup xs) S := rfl
theorem k_SeqTF : kSeqT Q S (some (.frz xs)) = Q (.tup xs) S := rfl
theorem g_app {v : W} : (bmW .append (.ref n) [v] S).wp Q Z = kApp Q S n v (S.get n) := m_app
theorem k_App {v : W} : kApp Q S n v (some (.lst xs)) = (xs.length ≤ lim ∧ Q .non (S.put n (.lst (xs ++ [v])))) := rfl
theorem g_ins {v : W} : (bmW .insert (.ref n) [.int 0, v] S).wp Q Z = kIns Q S n v (S.get n) := m_ins0
theorem k_Ins {v : W} : kIns Q S n v (some (.lst xs)) = (xs.length ≤ lim ∧ Q .non (S.put n (.lst (v :: xs)))) := rfl
theorem g_clr : (bmW .clear (.ref n) [] S).wp Q Z = kClr Q S n (S.get n) := m_clr
theorem k_Clr : kClr Q S n (some (.lst xs)) = Q .non (S.put n (.lst [])) := rfl
theorem g_pop : (bmW .pop (.ref n) [.int i] S).wp Q Z = kPop Q S n i (S.get n) := by
  rw [m_pop]; rfl
theorem k_PopL : kPop Q S n i (some (.lst xs)) = ((-100000 ≤ i ∧ i ≤ 100000) ∧ kPop1 Q S n xs (ixN xs.length i)) := rfl
theorem k_PopD {kvs : List (Key × W)} : kPop Q S n i (some (.dct false kvs)) = kPopD Q S n (.inl i) kvs (valW kvs (.inl i)) := rfl
theorem k_Pop1 {j : Nat} : kPop1 Q S n xs (some j) = kPop2 Q S n j xs xs[j]? := rfl
theorem k_Pop2 {j : Nat} {v : W} : kPop2 Q S n j xs (some v) = Q v (S.put n (.lst (xs.eraseIdx j))) := rfl
theorem k_PopD1 {kvs : List (Key × W)} {k : Key} {v : W} : kPopD Q S n k kvs (some v) = Q v (S.put n (.dct false (dropW kvs k))) := rfl
theorem g_get {v w : W} : (bmW .get (.ref n) [w, v] S).wp Q Z = kGet Q S w v (S.get n) := m_dget
theorem k_GetI {v : W} {l : Bool} {kvs : List (Key × W)} : kGet Q S (.int i) v (some (.dct l kvs)) = Q ((valW kvs (.inl i)).getD v) S := rfl
theorem k_GetS {v : W} {z : Str} {l : Bool} {kvs : List (Key × W)} : kGet Q S (.str z) v (some (.dct l kvs)) = Q ((valW kvs (.inr z)).getD v) S := rfl
end
section
variable {c : Call} {σ : Env} {S : Sto} {N : PN} {V : PQ} {X : PX} {e o i a b : E} {s t : D.S} {v w x : W} {n : Nat} {vs : List W}
theorem y_cons : (exec c (.cons s t) σ S).wp N V X = (exec c s σ S).wp (kSeq c N V X t) V X := x_cons
theorem y_ex : (exec c (.ex e) σ S).wp N V X = (eval c e σ S).wp (kDrop σ N) (zE X σ) := x_ex
theorem y_set {x : Nat} : (exec c (.set x e) σ S).wp N V X = (eval c e σ S).wp (kSet σ N x) (zE X σ) := x_set
theorem y_setA {f : Nm} : (exec c (.setA o f e) σ S).wp N V X = (eval c e σ S).wp (kSA c σ N X o f) (zE X σ) := x_setA
theorem y_setI : (exec c (.setI o i e) σ S).wp N V X = (eval c e σ S).wp (kSI c σ N X o i) (zE X σ) := x_setI
theorem y_setT {xs : List Nat} : (exec c (.setT xs e) σ S).wp N V X = (eval c e σ S).wp (kST σ N xs) (zE X σ) := x_setT
theorem y_par {xs : List Nat} : (exec c (.par xs e) σ S).wp N V X = (eval c e σ S).wp (kPar σ N xs) (zE X σ) := x_par
theorem y_ite : (exec c (.ite e s t) σ S).wp N V X = (eval c e σ S).wp (kIte c σ N V X s t) (zE X σ) := by
  rw [x_ite]; congr 1; funext v S; unfold kIte ifS; congr 1; funext b; rw [← sel_if]
theorem y_ret : (exec c (.ret e) σ S).wp N V X = (eval c e σ S).wp V (zE X σ) := x_ret
theorem y_tri {cs : List Nm} {k : Nm} {oo : Option Nat} : (exec c (.tri s cs k oo t) σ S).wp N V X = (exec c s σ S).wp N V (kTri c N V X cs t) := x_tri
theorem y_forT {xs : List Nat} {one : Bool} : (eval c e σ S).wp (kForT c σ N V X xs one s) (zE X σ) → (exec c (.for_ xs one e s) σ S).wp N V X := x_forT
theorem y_forL {xs : List Nat} {one : Bool} : (eval c e σ S).wp (kForL c σ N V X xs one s S) (zE X σ) → (exec c (.for_ xs one e s) σ S).wp N V X := x_forL
theorem y_forE {i' x : Nat} : (exec c (.forE i' x e s) σ S).wp N V X = (eval c e σ S).wp (kForE c σ N V X i' x s) (zE X σ) := x_forE
theorem h_Seq : kSeq c N V X t σ S = (exec c t σ S).wp N V X := rfl
theorem h_End {Q : PQ} : kEnd Q σ S = Q .non S := rfl
theorem h_Drop : kDrop σ N v S = N σ S := rfl
theorem h_Set {x : Nat} : kSet σ N x v S = N (σ.set x (some v)) S := rfl
theorem h_SA {f : Nm} : kSA c σ N X o f v S = (eval c o σ S).wp (kSA1 σ N f v) (zE X σ) := rfl
theorem h_SA1 {f : Nm} : kSA1 σ N f v (.ref n) S = kSA2 σ N f v S n (S.get n) := rfl
theorem h_SA2 {f k : Nm} {fs : List (Nm × W)} : kSA2 σ N f v S n (some (.ins k fs)) = (fs.length ≤ 900 ∧ N σ (S.put n (.ins k (putf fs f v)))) := rfl
theorem h_SI : kSI c σ N X o i v S = (eval c o σ S).wp (kSI1 c σ N X i v) (zE X σ) := rfl
theorem h_SI1 : kSI1 c σ N X i v w S = (eval c i σ S).wp (kSI2 σ N v w) (zE X σ) := rfl
theorem h_SI2 : kSI2 σ N v (.ref n) w S = kSI3 σ N w v S n (S.get n) := rfl
theorem h_SI3 {j : Int} : kSI3 σ N (.int j) v S n (some (.lst vs)) = kSIl σ N S n vs v (ixN vs.length j) := rfl
theorem h_SI3D {j : Int} {kvs : List (Key × W)} : kSI3 σ N (.int j) v S n (some (.dct false kvs)) = (kvs.length ≤ lim ∧ N σ (S.put n (.dct false (putW kvs (.inl j) v)))) := rfl
theorem h_SI3S {z : Str} {kvs : List (Key × W)} : kSI3 σ N (.str z) v S n (some (.dct false kvs)) = (kvs.length ≤ lim ∧ N σ (S.put n (.dct false (putW kvs (.inr z) v)))) := rfl
theorem h_SIl {j : Nat} : kSIl σ N S n vs v (some j) = N σ (S.put n (.lst (vs.set j v))) := rfl
theorem h_Env : kEnv N S (some σ) = N σ S := rfl
theorem h_ST {xs : List Nat} : kST σ N xs (.tup vs) S = kEnv N S (setAll xs vs σ) := rfl
theorem h_Par {xs : List Nat} : kPar σ N xs (.tup vs) S = kEnv N S (setAll xs vs σ) := rfl
theorem h_Ite {t' : Bool} : kIte c σ N V X s t (.bl t') S = ifS c σ N V X s t S (t' = true) := rfl
theorem i_Ite : ifS c σ N V X s t S True = (exec c s σ S).wp N V X := sel_t
theorem i_IteF : ifS c σ N V X s t S False = (exec c t σ S).wp N V X := sel_f
theorem h_ForT {xs : List Nat} {one : Bool} : kForT c σ N V X xs one s (.tup vs) S = (walkS (turnOf c xs one s) vs σ S).wp N V X := rfl
theorem h_ForL {xs : List Nat} {one : Bool} {S0 : Sto} : kForL c σ N V X xs one s S0 (.ref n) S = (isDct S0 (.ref n) = none ∧ optP (lstOf S (.ref n)) fun vs => (walkLS n (fun _ => turnOf c xs one s) vs.length 0 σ S).wp N V X) := rfl
theorem h_ForE {i' x : Nat} : kForE c σ N V X i' x s (.ref n) S = optP (lstOf S (.ref n)) fun vs => (walkLS n (fun k y σ S => exec c s ((σ.set i' (some (.int k))).set x (some y)) S) vs.length 0 σ S).wp N V X := rfl
theorem y_turn {xs : List Nat} {one : Bool} : (turnOf c xs one s x σ S).wp N V X = kTurn c N V X s S (takeT xs one x σ) := turn_wp
theorem h_Turn : kTurn c N V X s S (some σ) = (exec c s σ S).wp N V X := rfl
theorem h_zE {Z : PZ} : zE (zF Z) σ = Z := rfl
end
theorem run_q {T : Tab} {k : Nat} {f : Fk} {as : List W} {S : Sto} {d : Df} {Q : PQ} {Z : PZ} (h : T f = some d) (hl : as.length = d.np) (p : (exec (run T k) d.body (as.map some ++ List.replicate (d.N.length - d.np) none) S).wp (kEnd Q) Q (zF Z)) : (run T (k + 1) f as S).wp Q Z := run_wp h hl p
end D
end

section
/-! Equal lists, equal tuples. -/
namespace D
open PySem L2
theorem ix_nat {n : Nat} {k : Int} (h : 0 ≤ k) (g : k < n) : ixN n k = some k.toNat := by
  unfold ixN
  rw [if_pos h, if_pos g]
theorem ix_neg {n : Nat} {k : Int} (h : k < 0) (g : -(n : Int) ≤ k) : ixN n k = some (k + n).toNat := by
  unfold ixN
  rw [if_neg (by omega), if_pos g]
/-! ### loops -/
def nodL : Option Nd → Option (List W)
  | some (.lst xs) => some xs
  | some (.frz xs) => some xs
  | _ => none
theorem nodL_l {xs : List W} : nodL (some (.lst xs)) = some xs := rfl
theorem nodL_f {xs : List W} : nodL (some (.frz xs)) = some xs := rfl
theorem lstOf_nod {S : Sto} {n : Nat} : lstOf S (.ref n) = nodL (S.get n) := by
  rcases h : S.get n with _ | (_ | _ | _ | _) <;> simp [lstOf, nodL, h]
theorem isDct_nod {S : Sto} {n : Nat} {vs : List W} (h : nodL (S.get n) = some vs) : isDct S (.ref n) = none := by
  show (match S.get n with
    | some (.dct false _) => if n < S.next then some n else none
    | _ => none) = none
  cases g : S.get n with
  | none => rfl
  | some d =>
    rw [g] at h
    cases d <;> first | rfl | cases h
section
variable {c : Call} {σ : Env} {S : Sto} {N : PN} {V : PQ} {X : PX} {s : D.S} {n : Nat} {vs : List W} {xs : List Nat} {one : Bool}
theorem forL_list (hg : nodL (S.get n) = some vs) (I : Nat → Env → Sto → Prop) (h0 : I 0 σ S) (hl : ∀ i σ S, i ≤ vs.length → I i σ S → nodL (S.get n) = some vs) (hs : ∀ i x σ S, vs[i]? = some x → I i σ S → kTurn c (I (i + 1)) V X s S (takeT xs one x σ)) (hd : ∀ σ S, I vs.length σ S → N σ S) :
    kForL c σ N V X xs one s S (.ref n) S := by
  refine ⟨isDct_nod hg, ?_⟩
  rw [lstOf_nod, hg]
  exact loop_list I h0 (fun i σ S hi h => by rw [lstOf_nod]; exact hl i σ S hi h) (fun i x σ S hx h => by rw [y_turn]; exact hs i x σ S hx h) hd
theorem forL_ints {ns : List Int} (hg : nodL (S.get n) = some (ns.map .int)) (I : Nat → Env → Sto → Prop) (h0 : I 0 σ S) (hl : ∀ i σ S, i ≤ ns.length → I i σ S → nodL (S.get n) = some (ns.map .int)) (hs : ∀ i z σ S, ns[i]? = some z → I i σ S → kTurn c (I (i + 1)) V X s S (takeT xs one (.int z) σ)) (hd : ∀ σ S, I ns.length σ S → N σ S) :
    kForL c σ N V X xs one s S (.ref n) S := by
  refine forL_list hg I h0 (fun i σ S hi h => hl i σ S (by simpa using hi) h) (fun i x σ S hx h => ?_) (fun σ S h => hd σ S (by simpa using h))
  rw [List.getElem?_map] at hx
  cases e : ns[i]? with
  | none => rw [e] at hx; cases hx
  | some z =>
    rw [e] at hx
    have ex : W.int z = x := Option.some.inj hx
    subst ex
    exact hs i z σ S e h
theorem forT_vals (I : Nat → Env → Sto → Prop) (h0 : I 0 σ S) (hs : ∀ i x σ S, vs[i]? = some x → I i σ S → kTurn c (I (i + 1)) V X s S (takeT xs one x σ)) (hd : ∀ σ S, I vs.length σ S → N σ S) :
    kForT c σ N V X xs one s (.tup vs) S := loop_vals I h0 (fun i x σ S hx h => by rw [y_turn]; exact hs i x σ S hx h) hd
theorem forT_rng {lo hi : Int} (I : Nat → Env → Sto → Prop) (h0 : I 0 σ S) (hs : ∀ (i : Nat) σ S, (i : Int) < hi - lo → I i σ S → kTurn c (I (i + 1)) V X s S (takeT xs one (.int (lo + i)) σ)) (hd : ∀ σ S, I (hi - lo).toNat σ S → N σ S) :
    kForT c σ N V X xs one s (.tup (rangeW lo hi)) S := by
  refine forT_vals I h0 (fun i x σ S hx h => ?_) (fun σ S h => hd σ S (by rw [rangeW_len] at h; exact h))
  rw [rangeW_get] at hx
  by_cases g : i < (hi - lo).toNat
  · rw [if_pos g] at hx
    cases hx
    exact hs i σ S (by omega) h
  · rw [if_neg g] at hx; cases hx
theorem forE_list {i' x' : Nat} (hg : nodL (S.get n) = some vs) (I : Nat → Env → Sto → Prop) (h0 : I 0 σ S) (hl : ∀ i σ S, i ≤ vs.length → I i σ S → nodL (S.get n) = some vs) (hs : ∀ i x σ S, vs[i]? = some x → I i σ S → (exec c s ((σ.set i' (some (.int i))).set x' (some x)) S).wp (I (i + 1)) V X) (hd : ∀ σ S, I vs.length σ S → N σ S) :
    kForE c σ N V X i' x' s (.ref n) S := by
  show optP (lstOf S (.ref n)) _
  rw [lstOf_nod, hg]
  exact loop_list I h0 (fun i σ S hi h => by rw [lstOf_nod]; exact hl i σ S hi h) (fun i x σ S hx h => hs i x σ S hx h) hd
end
/-! ### equal lists -/
mutual
/-- numbers, texts, None, tuples of these, k deep -/
def iv : Nat → W → Bool
  | _, .non => true
  | _, .int _ => true
  | _, .str x => PyData.canLay0 (.str x)
  | k + 1, .tup xs => ivs k xs
  | _, _ => false
def ivs : Nat → List W → Bool
  | _, [] => true
  | k, x :: xs => iv k x && ivs k xs
end
mutual
theorem dat_iv {S : Sto} {j : Nat} : ∀ {k : Nat} {w : W}, iv k w = true → ∃ d, dat S j w = some d ∧ PyData.canLay0 d = true ∧ d.depth ≤ k
  | _, .non, _ => ⟨.none, by simp only [dat], rfl, Nat.zero_le _⟩
  | _, .int i, _ => ⟨.int i, by simp only [dat], rfl, Nat.zero_le _⟩
  | _, .str x, h => ⟨.str x, by simp only [dat], h, Nat.zero_le _⟩
  | k + 1, .tup xs, h => by
    obtain ⟨ds, h1, h2, h3⟩ := dats_iv (S := S) (j := j) (k := k) (xs := xs) h
    exact ⟨.tuple ds, by simp only [dat, h1, Option.map_some], h2, Nat.succ_le_succ h3⟩
  | 0, .tup xs, h => by simp [iv] at h
  | 0, .bl _, h => by simp [iv] at h
  | _ + 1, .bl _, h => by simp [iv] at h
  | 0, .ref _, h => by simp [iv] at h
  | _ + 1, .ref _, h => by simp [iv] at h
theorem dats_iv {S : Sto} {j : Nat} : ∀ {k : Nat} {xs : List W}, ivs k xs = true → ∃ ds, dats S j xs = some ds ∧ PyData.canLayAll0 ds = true ∧ PyData.depthAll ds ≤ k
  | _, [], _ => ⟨[], by simp only [dats], rfl, Nat.zero_le _⟩
  | k, x :: xs, h => by
    simp only [ivs, Bool.and_eq_true] at h
    obtain ⟨d, h1, h2, h3⟩ := dat_iv (S := S) (j := j) h.1
    obtain ⟨ds, g1, g2, g3⟩ := dats_iv (S := S) (j := j) h.2
    refine ⟨d :: ds, by simp only [dats, h1, g1], ?_, ?_⟩
    · simp only [PyData.canLayAll0, h2, g2, Bool.and_self]
    · simp only [PyData.depthAll]; omega
end
mutual
theorem eqv_iv {S S' : Sto} {j j' : Nat} : ∀ {k : Nat} {v w : W} {d e : PyData}, iv k v = true → iv k w = true → dat S j v = some d → dat S' j' w = some e → (PyData.eqv d e = true ↔ v = w)
  | k, v, w, d, e, hv, hw, h1, h2 => by
    cases v with
    | non => cases w with
      | tup ys =>
        cases k with
        | zero => simp [iv] at hw
        | succ k =>
          obtain ⟨ds, g1, _⟩ := dats_iv (S := S') (j := j') (k := k) (xs := ys) hw
          simp only [dat, g1, Option.map_some, Option.some.injEq] at h1 h2
          subst h1 h2; simp [PyData.eqv]
      | bl _ => cases k <;> simp [iv] at hw
      | ref _ => cases k <;> simp [iv] at hw
      | _ => simp only [dat, Option.some.injEq] at h1 h2; subst h1 h2; simp [PyData.eqv]
    | int i => cases w with
      | tup ys =>
        cases k with
        | zero => simp [iv] at hw
        | succ k =>
          obtain ⟨ds, g1, _⟩ := dats_iv (S := S') (j := j') (k := k) (xs := ys) hw
          simp only [dat, g1, Option.map_some, Option.some.injEq] at h1 h2
          subst h1 h2; simp [PyData.eqv]
      | bl _ => cases k <;> simp [iv] at hw
      | ref _ => cases k <;> simp [iv] at hw
      | _ => simp only [dat, Option.some.injEq] at h1 h2; subst h1 h2; simp [PyData.eqv]
    | str x => cases w with
      | tup ys =>
        cases k with
        | zero => simp [iv] at hw
        | succ k =>
          obtain ⟨ds, g1, _⟩ := dats_iv (S := S') (j := j') (k := k) (xs := ys) hw
          simp only [dat, g1, Option.map_some, Option.some.injEq] at h1 h2
          subst h1 h2; simp [PyData.eqv]
      | bl _ => cases k <;> simp [iv] at hw
      | ref _ => cases k <;> simp [iv] at hw
      | _ => simp only [dat, Option.some.injEq] at h1 h2; subst h1 h2; simp [PyData.eqv]
    | tup xs =>
      cases k with
      | zero => simp [iv] at hv
      | succ k =>
        obtain ⟨ds, g1, _⟩ := dats_iv (S := S) (j := j) (k := k) (xs := xs) hv
        simp only [dat, g1, Option.map_some, Option.some.injEq] at h1
        subst h1
        cases w with
        | tup ys =>
          obtain ⟨es, g2, _⟩ := dats_iv (S := S') (j := j') (k := k) (xs := ys) hw
          simp only [dat, g2, Option.map_some, Option.some.injEq] at h2
          subst h2
          simp only [PyData.eqv, W.tup.injEq]
          exact eqv_ivs (k := k) hv hw g1 g2
        | bl _ => simp [iv] at hw
        | ref _ => simp [iv] at hw
        | _ => simp only [dat, Option.some.injEq] at h2; subst h2; simp [PyData.eqv]
    | bl _ => cases k <;> simp [iv] at hv
    | ref _ => cases k <;> simp [iv] at hv
termination_by k v => (k, sizeOf v)
theorem eqv_ivs {S S' : Sto} {j j' : Nat} : ∀ {k : Nat} {xs ys : List W} {ds es : List PyData}, ivs k xs = true → ivs k ys = true → dats S j xs = some ds → dats S' j' ys = some es → (PyData.eqvAll ds es = true ↔ xs = ys)
  | k, [], [], ds, es, _, _, h1, h2 => by
    simp only [dats, Option.some.injEq] at h1 h2
    subst h1 h2; simp [PyData.eqvAll]
  | k, [], y :: ys, ds, es, _, hy, h1, h2 => by
    simp only [ivs, Bool.and_eq_true] at hy
    obtain ⟨e, g1, _⟩ := dat_iv (S := S') (j := j') hy.1
    obtain ⟨es', g2, _⟩ := dats_iv (S := S') (j := j') hy.2
    simp only [dats, g1, g2, Option.some.injEq] at h1 h2
    subst h1 h2; simp [PyData.eqvAll]
  | k, x :: xs, [], ds, es, hx, _, h1, h2 => by
    simp only [ivs, Bool.and_eq_true] at hx
    obtain ⟨e, g1, _⟩ := dat_iv (S := S) (j := j) hx.1
    obtain ⟨es', g2, _⟩ := dats_iv (S := S) (j := j) hx.2
    simp only [dats, g1, g2, Option.some.injEq] at h1 h2
    subst h1 h2; simp [PyData.eqvAll]
  | k, x :: xs, y :: ys, ds, es, hx, hy, h1, h2 => by
    simp only [ivs, Bool.and_eq_true] at hx hy
    obtain ⟨d, g1, _⟩ := dat_iv (S := S) (j := j) hx.1
    obtain ⟨ds', g2, _⟩ := dats_iv (S := S) (j := j) hx.2
    obtain ⟨e, g3, _⟩ := dat_iv (S := S') (j := j') hy.1
    obtain ⟨es', g4, _⟩ := dats_iv (S := S') (j := j') hy.2
    simp only [dats, g1, g2, g3, g4, Option.some.injEq] at h1 h2
    subst h1 h2
    simp only [PyData.eqvAll, Bool.and_eq_true, List.cons.injEq]
    rw [eqv_iv hx.1 hy.1 g1 g3, eqv_ivs hx.2 hy.2 g2 g4]
termination_by k xs => (k, sizeOf xs)
end
/-- equal lists, their items as they stand in a store -/
def eqLs (S : Sto) (xs ys : List W) : Option Bool := match dats S 5 xs, dats S 5 ys with
  | some d, some e => if SeqAt.shaped (.list d) && SeqAt.shaped (.list e) then some (PyData.eqv (.list d) (.list e)) else none
  | _, _ => none
def eqN (S : Sto) (o p : Option (List W)) : Option Bool := match o, p with
  | some xs, some ys => eqLs S xs ys
  | _, _ => none
theorem eq_ref {S : Sto} {n m : Nat} : eqW S (.ref n) (.ref m) = eqN S (nodL (S.get n)) (nodL (S.get m)) := by
  have key : ∀ n, dat S 6 (.ref n) = match nodL (S.get n) with
    | some xs => (dats S 5 xs).map .list
    | none => none := fun n => by
    unfold dat nodL
    cases S.get n with
    | none => rfl
    | some d => cases d <;> rfl
  unfold eqW
  simp only [W.sc, Bool.false_and, Bool.false_eq_true, if_false, key]
  cases nodL (S.get n) with
  | none => rfl
  | some xs =>
    cases nodL (S.get m) with
    | none =>
      simp only [eqN]
      cases dats S 5 xs <;> rfl
    | some ys =>
      simp only [eqN, eqLs]
      cases dats S 5 xs <;> cases dats S 5 ys <;> rfl
theorem eqN_s {S : Sto} {xs ys : List W} : eqN S (some xs) (some ys) = eqLs S xs ys := rfl
theorem dep_list {ds : List PyData} : (PyData.list ds).depth = PyData.depthAll ds + 1 := by simp [PyData.depth]
theorem dep_tup {ds : List PyData} : (PyData.tuple ds).depth = PyData.depthAll ds + 1 := by simp [PyData.depth]
theorem eqLs_iv {S : Sto} {xs ys : List W} (hx : ivs 9 xs = true) (hy : ivs 9 ys = true) [Decidable (xs = ys)] : eqLs S xs ys = some (decide (xs = ys)) := by
  obtain ⟨ds, g1, g2, g3⟩ := dats_iv (S := S) (j := 5) hx
  obtain ⟨es, k1, k2, k3⟩ := dats_iv (S := S) (j := 5) hy
  have s1 : SeqAt.shaped (.list ds) = true := by
    unfold SeqAt.shaped
    rw [dep_list]
    simp only [PyData.canLay0, g2, Bool.true_and, decide_eq_true_eq]; omega
  have s2 : SeqAt.shaped (.list es) = true := by
    unfold SeqAt.shaped
    rw [dep_list]
    simp only [PyData.canLay0, k2, Bool.true_and, decide_eq_true_eq]; omega
  have iff := eqv_ivs hx hy g1 k1
  unfold eqLs
  simp only [g1, k1, s1, s2, Bool.and_self, if_true, PyData.eqv]
  congr 1
  rw [Bool.eq_iff_iff, iff, decide_eq_true_eq]
theorem eq_tup {S : Sto} {xs ys : List W} (hx : ivs 9 xs = true) (hy : ivs 9 ys = true) [Decidable (xs = ys)] : eqW S (.tup xs) (.tup ys) = some (decide (xs = ys)) := by
  obtain ⟨ds, g1, g2, g3⟩ := dats_iv (S := S) (j := 6) hx
  obtain ⟨es, k1, k2, k3⟩ := dats_iv (S := S) (j := 6) hy
  have e1 : dat S 6 (.tup xs) = some (.tuple ds) := by simp only [dat, g1, Option.map_some]
  have e2 : dat S 6 (.tup ys) = some (.tuple es) := by simp only [dat, k1, Option.map_some]
  have s1 : SeqAt.shaped (.tuple ds) = true := by
    unfold SeqAt.shaped
    rw [dep_tup]
    simp only [PyData.canLay0, g2, Bool.true_and, decide_eq_true_eq]; omega
  have s2 : SeqAt.shaped (.tuple es) = true := by
    unfold SeqAt.shaped
    rw [dep_tup]
    simp only [PyData.canLay0, k2, Bool.true_and, decide_eq_true_eq]; omega
  have iff := eqv_ivs hx hy g1 k1
  unfold eqW
  simp only [W.sc, Bool.false_and, Bool.false_eq_true, if_false, e1, e2, s1, s2, Bool.and_self, if_true, PyData.eqv]
  congr 1
  rw [Bool.eq_iff_iff, iff, decide_eq_true_eq]
theorem ivs_ints {k : Nat} : ∀ ns : List Int, ivs k (ns.map .int) = true
  | [] => rfl
  | n :: ns => by
    simp only [List.map_cons, ivs, ivs_ints ns, Bool.and_true]
    cases k <;> rfl
theorem int_map_inj {ns ms : List Int} : (ns.map W.int = ms.map W.int) = (ns = ms) := by
  apply propext
  constructor
  · intro h
    induction ns generalizing ms with
    | nil => cases ms with
      | nil => rfl
      | cons _ _ => cases h
    | cons n ns ih => cases ms with
      | nil => cases h
      | cons m ms =>
        simp only [List.map_cons, List.cons.injEq, W.int.injEq] at h
        rw [h.1, ih h.2]
  · intro h; rw [h]
theorem eqLs_ints {S : Sto} {xs ys : List Int} : eqLs S (xs.map .int) (ys.map .int) = some (decide (xs = ys)) := by
  have : Decidable (xs.map W.int = ys.map W.int) := by rw [int_map_inj]; exact inferInstance
  rw [eqLs_iv (ivs_ints xs) (ivs_ints ys)]
  congr 1
  rw [Bool.eq_iff_iff, decide_eq_true_eq, decide_eq_true_eq, int_map_inj]
theorem eqLs_ints0 {S : Sto} {xs : List Int} : eqLs S (xs.map .int) [] = some (decide (xs = [])) := eqLs_ints (ys := [])
theorem eqLs_nn {S : Sto} : eqLs S [] [] = some true := eqLs_ints (xs := []) (ys := [])
theorem eqLs_c0 {S : Sto} {n : Int} {ns : List Int} : eqLs S (.int n :: ns.map .int) [] = some false := eqLs_ints (xs := n :: ns) (ys := [])
theorem eqLs_iv0 {S : Sto} {xs : List W} (hx : ivs 9 xs = true) : eqLs S xs [] = some (decide (xs = [])) := by
  cases xs with
  | nil => rw [eqLs_iv (xs := []) (ys := []) rfl rfl]
  | cons x xs =>
    have : Decidable (x :: xs = []) := .isFalse (by simp)
    rw [eqLs_iv (xs := x :: xs) (ys := []) hx rfl]
    congr 1
    simp
end D
end

section
/-! What the laws share: the box of numbers. -/
namespace D
open PySem L2
local macro_rules | `(tactic| x_go) => `(tactic| simp (disch := first | omega | ((simp only [new_next, put_next]) <;> omega) | fail) only [*, x_nil, y_cons, x_pass, y_ex, y_set, y_setA, y_setI, y_setT, y_par, y_ite, y_ret, x_retN, x_rse, y_tri, y_forE, y_turn, e_var, e_int, e_bl, e_non, e_str, e_gi, e_gs, q_bin, q_neg, q_nt, q_and, q_or, q_cmp, q_chain, q_ife, q_call, q_new, q_meth, q_bi, q_bm, q_attr, q_ix, q_sl, q_rev, e_tup, q_lst, e_dct0, q_dctk, q_isi, q_rng1, q_rng2, e_nil, q_cons, q_kv, k_E2, k_Bin, k_Cmp, k_Ix, k_Cons, k_Rng2, k_Kv1, k_Kv, k_Neg, k_Nt, k_And, i_And, i_AndF, k_Or, i_Or, i_OrF, k_Ife, i_Ife, i_IfeF, k_Ch, k_Ch1, i_Ch, i_ChF, k_Call, k_New, k_New1, k_Me, k_Me1, k_Me2, k_Bi, k_Bm, k_Bm1, k_Bm2, k_Opt, k_Bl, k_NBl, k_At, k_At1, k_Int, k_Sl, k_Sl1, k_Sl2, ev_t, ev_f, isNo, k_Rev, k_Rev1, k_Lst, k_Dct, k_Dct1, k_Dct2, k_Isi, k_Rng1, g_eq, g_ne, g_in, g_nin, g_ixT, g_ixR, k_ItmL, k_ItmD, k_ItK, w_keyI, w_keyS, g_slR, k_Lst1, g_addL, k_AddL, g_mulL, k_MulL, g_lenR, k_LenL, k_LenF, k_LenD, g_listR, k_SeqLL, k_SeqLF, g_tupR, k_SeqTL, k_SeqTF, g_app, k_App, g_ins, k_Ins, g_clr, k_Clr, g_pop, k_PopL, k_PopD, k_Pop1, k_Pop2, k_PopD1, g_get, k_GetI, k_GetS, h_Seq, h_End, h_Drop, h_Set, h_SA, h_SA1, h_SA2, h_SI, h_SI1, h_SI2, h_SI3, h_SI3D, h_SI3S, h_SIl, h_Env, h_ST, h_Par, h_Ite, i_Ite, i_IteF, h_Turn, h_zE, varP_some, put_get, put_ne, put_next, new_get, new_ne, new_at, new_next, b_add, b_sub, b_mul, b_div, b_mod, b_addS, b_addT, c_lt, c_le, c_gt, c_ge, c_is, c_isn, eq_int, eq_str, eq_bl, eq_si, eq_is, eq_nn, eq_ni, eq_in, eq_ref, nodL_l, nodL_f, eqN_s, eqLs_ints, eqLs_ints0, eqLs_nn, eqLs_c0, i_str, s_tup, s_str, at_nat, at_neg, ix_nat, ix_neg, Int.toNat_zero, Int.toNat_one, Int.reduceToNat, List.length_cons, List.length_nil, List.length_map, List.length_append, List.length_set, List.eraseIdx_cons_zero, f_lenT, f_lenS, f_listT, f_intI, f_intB, f_min2, f_max2, f_str, kd_ref, kd_str', kdP_lst, kdP_dct, fitK, isi_non, isi_int, isi_bl, isi_str, isi_tup, isi_ref, isiN_l, isiN_f, isiN_d, tyI, tyB, tySt, tyT, tyL, isN, fld, putf, if_true, if_false, eq_self, take_one, take_tup, setAll_nil, setAll_cons, List.getElem?_cons_zero, List.getElem?_cons_succ, List.set_cons_zero, List.set_cons_succ, List.map_cons, List.map_nil, List.cons_append, List.nil_append, decide_eq_true_eq, Bool.false_eq_true, true_and, and_true, Bool.not_true, Bool.not_false, Bool.not_eq_true', decide_eq_false_iff_not, reduceCtorEq])
structure Fr (A : List Nat) (S S' : Sto) : Prop where
  le : S.next ≤ S'.next
  eq : ∀ n, n < S.next → n ∉ A → S'.get n = S.get n
structure Box (S : Sto) (b l : Nat) (x : Int) (ns : List Int) : Prop where
  hb : S.get b = some (.lst [.ref l, .int x])
  hl : S.get l = some (.lst (ns.map .int))
  lb : b < S.next
  ll : l < S.next
  ne : b ≠ l
theorem dats_ints {S : Sto} {k : Nat} : ∀ ns : List Int, dats S k (ns.map .int) = some (ns.map PyData.int)
  | [] => by simp only [List.map_nil, dats]
  | n :: ns => by simp only [List.map_cons, dats, dat, dats_ints ns]
def takeQ (b l : Nat) (m : Int) (S : Sto) : PQ := fun v S' => ∃ r x' ns', v = .int r ∧ 0 ≤ r ∧ r < m ∧ Box S' b l x' ns' ∧ Fr [b, l] S S'
theorem fr_mem2 {b l n : Nat} (h : n ∉ [b, l]) : n ≠ b ∧ n ≠ l := by simpa using h
theorem takeQ_i {b l : Nat} {m r x' : Int} {ns' : List Int} {S S' : Sto} (hr : 0 ≤ r ∧ r < m) (hb : S'.get b = some (.lst [.ref l, .int x'])) (hl : S'.get l = some (.lst (ns'.map .int))) (lb : b < S.next) (ll : l < S.next) (ne : b ≠ l) (le : S.next ≤ S'.next) (fr : ∀ n, n < S.next → n ≠ b → n ≠ l → S'.get n = S.get n) : takeQ b l m S (.int r) S' :=
  ⟨r, x', ns', rfl, hr.1, hr.2, ⟨hb, hl, by omega, by omega, ne⟩, ⟨le, fun n hn h => fr n hn (fr_mem2 h).1 (fr_mem2 h).2⟩⟩
theorem take_ok' {T : Tab} (hT : T (.fn .n_law_take) = some b_law_take) {k b l : Nat} {x m : Int} {ns : List Int} {S : Sto} {Z : PZ} (B : Box S b l x ns) (hm : 0 < m ∧ m < 2 ^ 100) :
    (run T (k + 1) (.fn .n_law_take) [.ref b, .int m] S).wp (takeQ b l m S) Z := by
  obtain ⟨hb, hl, lb, ll, ne⟩ := B
  have hr : ∀ z : Int, 0 ≤ z % m ∧ z % m < m := fun z => ⟨Int.emod_nonneg _ (by omega), Int.emod_lt_of_pos _ hm.1⟩
  refine run_q hT rfl ?_
  show (exec (run T k) b_law_take.body [some (.ref b), some (.int m), none] S).wp _ _ _
  unfold b_law_take
  dsimp only
  cases ns with
  | nil =>
    rw [List.map_nil] at hl
    x_go
    exact ⟨by omega, by omega, by omega, takeQ_i (ns' := []) (x' := x * 48271 % 2147483647) (hr _) (by x_go) (by x_go) lb ll ne (by x_go; omega) (fun n h1 h2 h3 => by x_go)⟩
  | cons n0 ns =>
    rw [List.map_cons] at hl
    x_go
    refine sel_i (fun h => ?_) (fun h => ?_)
    · x_go
      exact ⟨by omega, takeQ_i (ns' := ns) (x' := x) (hr _) (by x_go) (by x_go) lb ll ne (by x_go; omega) (fun n h1 h2 h3 => by x_go)⟩
    · x_go
      refine sel_i (fun h => ?_) (fun h => ?_)
      · x_go
        exact ⟨by omega, takeQ_i (ns' := ns) (x' := x) (hr _) (by x_go) (by x_go) lb ll ne (by x_go; omega) (fun n h1 h2 h3 => by x_go)⟩
      · x_go
        exact takeQ_i (ns' := n0 / m :: ns) (x' := x) (hr _) (by x_go) (by x_go) lb ll ne (by x_go; omega) (fun n h1 h2 h3 => by x_go)
/-- the box at its start -/
def begunQ (S : Sto) : PQ := fun v S' => ∃ b l x ns, v = .ref b ∧ S.next ≤ b ∧ S.next ≤ l ∧ Box S' b l x ns ∧ Fr [] S S'
theorem begun_ok {T : Tab} (hT : T (.fn .n_law_begun) = some b_law_begun) {k s : Nat} {ns : List Int} {S : Sto} {Z : PZ} (hs : S.get s = some (.frz (ns.map .int))) (ls : s < S.next) :
    (run T (k + 1) (.fn .n_law_begun) [.ref s] S).wp (begunQ S) Z := by
  refine run_q hT rfl ?_
  show (exec (run T k) b_law_begun.body [some (.ref s), none, none] S).wp _ _ _
  unfold b_law_begun
  dsimp only
  x_go
  refine y_forL ?_
  x_go
  refine forL_ints (ns := ns) (by x_go) (fun i σ S' => S' = S ∧ ∃ a o, σ = [some (.ref s), some (.int a), o]) ⟨rfl, 0, none, rfl⟩ (fun i σ S' hi h => by rw [h.1]; x_go) (fun i z σ S' hz h => ?_) (fun σ S' h => ?_)
  · obtain ⟨rfl, a, o, rfl⟩ := h
    x_go
    exact ⟨by omega, by omega, by omega, _, _, rfl⟩
  · obtain ⟨rfl, a, o, rfl⟩ := h
    x_go
    refine ⟨.inr (by split <;> omega), _, S'.next, _, ns, rfl, by omega, by omega, ⟨new_get, by x_go, by x_go; omega, by x_go; omega, by omega⟩, ⟨by x_go; omega, fun n hn _ => by x_go⟩⟩
end D
end

section
/-! The judge of deeds. -/
namespace D
open PySem L2
theorem k_Get0 {Q : PQ} {S : Sto} {l : Bool} {kvs : List (Key × W)} {w v : W} {k : Key} (h : w.key = some k) : kGet Q S w v (some (.dct l kvs)) = Q ((valW kvs k).getD v) S := by
  unfold kGet; rw [h]; rfl
/-! ### dicts of numbers -/
theorem valW_map {kvs : List (Key × W)} {k k' : Key} {v : W} : valW (kvs.map fun kv => if kv.1 = k then (kv.1, v) else kv) k' = if k' = k then (if (valW kvs k).isSome then some v else none) else valW kvs k' := by
  induction kvs with
  | nil => simp [valW]
  | cons p r ih =>
    rw [List.map_cons]
    by_cases hp : p.1 = k
    · rw [if_pos hp]
      unfold valW
      dsimp only
      by_cases h : k' = k
      · subst h; simp [hp]
      · have : p.1 ≠ k' := fun z => h (z.symm.trans hp)
        rw [if_neg this, if_neg h, ih, if_neg h, if_neg this]
    · rw [if_neg hp]
      by_cases h : k' = k
      · subst h
        unfold valW
        rw [if_neg hp, ih, if_pos rfl, if_pos rfl, if_neg hp]
      · unfold valW
        rw [ih, if_neg h, if_neg h]
theorem valW_app {kvs : List (Key × W)} {k k' : Key} {v : W} : valW (kvs ++ [(k, v)]) k' = if (valW kvs k').isSome then valW kvs k' else if k = k' then some v else none := by
  induction kvs with
  | nil => simp [valW]
  | cons p r ih =>
    rw [List.cons_append]
    unfold valW
    by_cases h : p.1 = k'
    · simp [h]
    · rw [if_neg h, if_neg h, ih]
theorem any_val {kvs : List (Key × W)} {k : Key} : (kvs.any fun kv => decide (kv.1 = k)) = (valW kvs k).isSome := by
  induction kvs with
  | nil => rfl
  | cons p r ih =>
    rw [List.any_cons, ih]
    by_cases h : p.1 = k <;> simp [h, valW]
theorem valW_put {kvs : List (Key × W)} {k k' : Key} {v : W} : valW (putW kvs k v) k' = if k' = k then some v else valW kvs k' := by
  unfold putW
  rw [any_val]
  split
  · rename_i h
    rw [valW_map]
    simp [h]
  · rename_i h
    rw [valW_app]
    by_cases e : k' = k
    · subst e
      have : valW kvs k' = none := by
        cases q : valW kvs k' with
        | none => rfl
        | some _ => rw [q] at h; exact absurd rfl h
      simp [this]
    · rw [if_neg e, if_neg (Ne.symm e)]
      cases valW kvs k' <;> rfl
theorem putW_len {kvs : List (Key × W)} {k : Key} {v : W} : (putW kvs k v).length ≤ kvs.length + 1 := by
  unfold putW
  split <;> simp
def fup (f : Int → Int) (i v : Int) : Int → Int := fun j => if j = i then v else f j
/-- a dict of numbers, zero where it has none -/
def DI (kvs : List (Key × W)) (f : Int → Int) : Prop := ∀ i, (valW kvs (.inl i)).getD (.int 0) = .int (f i)
theorem DI.put {kvs : List (Key × W)} {f : Int → Int} (h : DI kvs f) (i v : Int) : DI (putW kvs (.inl i) (.int v)) (fup f i v) := fun j => by
  rw [valW_put]
  unfold fup
  by_cases e : j = i
  · subst e; simp
  · rw [if_neg (by simpa using e), if_neg e]; exact h j
theorem DI.nil : DI [] fun _ => 0 := fun _ => rfl
/-! ### deeds -/
structure Deed where
  s : Int
  c : Int
  a : Int
  n : Int
  m : Int
  w : Int
  k : Int
def Deed.v (d : Deed) : W := .tup [.int d.s, .int d.c, .int d.a, .int d.n, .int d.m, .int d.w, .int d.k]
structure JSt where
  cs : Int → Int
  hs : Int → Int
  us : Int → Int
  ma : Int
def JSt.lets (t : JSt) (d : Deed) : Prop := d.c = t.cs d.s + 1 ∧ d.w = (t.hs d.s + d.m) % 1000 ∧ d.n = t.us d.a + 1 ∧ t.ma ≤ d.k
def JSt.step (t : JSt) (d : Deed) : JSt := ⟨fup t.cs d.s d.c, fup t.hs d.s d.w, fup t.us d.a d.n, d.k⟩
/-- a judge in the store -/
structure JS (S : Sto) (j c h u : Nat) (m : Nat) (t : JSt) : Prop where
  obj : S.get j = some (.ins .n_Judge [(.n_counts, .ref c), (.n_held, .ref h), (.n_numbers, .ref u), (.n_make, .int t.ma)])
  hc : ∃ kvs, S.get c = some (.dct false kvs) ∧ DI kvs t.cs ∧ kvs.length ≤ m
  hh : ∃ kvs, S.get h = some (.dct false kvs) ∧ DI kvs t.hs ∧ kvs.length ≤ m
  hu : ∃ kvs, S.get u = some (.dct false kvs) ∧ DI kvs t.us ∧ kvs.length ≤ m
  lj : j < S.next
  lc : c < S.next
  lh : h < S.next
  lu : u < S.next
  jc : j ≠ c
  jh : j ≠ h
  ju : j ≠ u
  ch : c ≠ h
  cu : c ≠ u
  hu' : h ≠ u
local macro_rules | `(tactic| x_go) => `(tactic| simp (disch := first | omega | ((simp only [new_next, put_next]) <;> omega) | fail) only [*, x_nil, y_cons, x_pass, y_ex, y_set, y_setA, y_setI, y_setT, y_par, y_ite, y_ret, x_retN, x_rse, y_tri, y_forE, y_turn, e_var, e_int, e_bl, e_non, e_str, e_gi, e_gs, q_bin, q_neg, q_nt, q_and, q_or, q_cmp, q_chain, q_ife, q_call, q_new, q_meth, q_bi, q_bm, q_attr, q_ix, q_sl, q_rev, e_tup, q_lst, e_dct0, q_dctk, q_isi, q_rng1, q_rng2, e_nil, q_cons, q_kv, k_E2, k_Bin, k_Cmp, k_Ix, k_Cons, k_Rng2, k_Kv1, k_Kv, k_Neg, k_Nt, k_And, i_And, i_AndF, k_Or, i_Or, i_OrF, k_Ife, i_Ife, i_IfeF, k_Ch, k_Ch1, i_Ch, i_ChF, k_Call, k_New, k_New1, k_Me, k_Me1, k_Me2, k_Bi, k_Bm, k_Bm1, k_Bm2, k_Opt, k_Bl, k_NBl, k_At, k_At1, k_Int, k_Sl, k_Sl1, k_Sl2, ev_t, ev_f, isNo, k_Rev, k_Rev1, k_Lst, k_Dct, k_Dct1, k_Dct2, k_Isi, k_Rng1, g_eq, g_ne, g_in, g_nin, g_ixT, g_ixR, k_ItmL, k_ItmD, k_ItK, w_keyI, w_keyS, g_slR, k_Lst1, g_addL, k_AddL, g_mulL, k_MulL, g_lenR, k_LenL, k_LenF, k_LenD, g_listR, k_SeqLL, k_SeqLF, g_tupR, k_SeqTL, k_SeqTF, g_app, k_App, g_ins, k_Ins, g_clr, k_Clr, g_pop, k_PopL, k_PopD, k_Pop1, k_Pop2, k_PopD1, g_get, k_GetI, k_GetS, h_Seq, h_End, h_Drop, h_Set, h_SA, h_SA1, h_SA2, h_SI, h_SI1, h_SI2, h_SI3, h_SI3D, h_SI3S, h_SIl, h_Env, h_ST, h_Par, h_Ite, i_Ite, i_IteF, h_Turn, h_zE, varP_some, put_get, put_ne, put_next, new_get, new_ne, new_at, new_next, b_add, b_sub, b_mul, b_div, b_mod, b_addS, b_addT, c_lt, c_le, c_gt, c_ge, c_is, c_isn, eq_int, eq_str, eq_bl, eq_si, eq_is, eq_nn, eq_ni, eq_in, eq_ref, nodL_l, nodL_f, eqN_s, eqLs_ints, eqLs_ints0, eqLs_nn, eqLs_c0, i_str, s_tup, s_str, at_nat, at_neg, ix_nat, ix_neg, Int.toNat_zero, Int.toNat_one, Int.reduceToNat, List.length_cons, List.length_nil, List.length_map, List.length_append, List.length_set, List.eraseIdx_cons_zero, f_lenT, f_lenS, f_listT, f_intI, f_intB, f_min2, f_max2, f_str, kd_ref, kd_str', kdP_lst, kdP_dct, fitK, isi_non, isi_int, isi_bl, isi_str, isi_tup, isi_ref, isiN_l, isiN_f, isiN_d, tyI, tyB, tySt, tyT, tyL, isN, fld, putf, if_true, if_false, eq_self, take_one, take_tup, setAll_nil, setAll_cons, List.getElem?_cons_zero, List.getElem?_cons_succ, List.set_cons_zero, List.set_cons_succ, List.map_cons, List.map_nil, List.cons_append, List.nil_append, decide_eq_true_eq, Bool.false_eq_true, true_and, and_true, Bool.not_true, Bool.not_false, Bool.not_eq_true', decide_eq_false_iff_not, reduceCtorEq])
def letsQ (j c h u m : Nat) (t : JSt) (d : Deed) (S : Sto) : PQ := fun v S' => Fr [j, c, h, u] S S' ∧ ((t.lets d ∧ v = .bl true ∧ JS S' j c h u (m + 1) (t.step d)) ∨ (¬ t.lets d ∧ v = .bl false))
theorem lets_ok {T : Tab} (hT : T (.me .n_Judge .n_lets) = some b_Judge_lets) {k j c h u m : Nat} {t : JSt} {d : Deed} {S : Sto} {Z : PZ} (J : JS S j c h u m t) (hm : m ≤ 1000000) :
    (run T (k + 1) (.me .n_Judge .n_lets) [.ref j, d.v] S).wp (letsQ j c h u m t d S) Z := by
  obtain ⟨ho, ⟨kc, hc, dc, lc'⟩, ⟨kh, hh, dh, lh'⟩, ⟨ku, hu, du, lu'⟩, lj, lc, lh, lu, jc, jh, ju, ch, cu, hu'⟩ := J
  have dc' := dc d.s
  have dh' := dh d.s
  have du' := du d.a
  refine run_q hT rfl ?_
  show (exec (run T k) b_Judge_lets.body [some (.ref j), some d.v, none, none, none, none, none, none, none] S).wp _ _ _
  unfold b_Judge_lets Deed.v
  dsimp only
  have ll : ∀ {l : List (Key × W)}, l.length ≤ m → l.length ≤ lim := fun {l} h => by unfold lim; omega
  have no : ¬ t.lets d → letsQ j c h u m t d S (.bl false) S := fun z => ⟨⟨Nat.le_refl _, fun n _ _ => rfl⟩, .inr ⟨z, rfl⟩⟩
  x_go
  refine sel_i (fun h1 => ?_) (fun h1 => ?_)
  · x_go
    exact no fun z => h1 z.1
  · have h1 := Decidable.not_not.mp h1
    x_go
    refine ⟨by omega, sel_i (fun h2 => ?_) (fun h2 => ?_)⟩
    · x_go
      exact no fun z => h2 z.2.1
    · have h2 := Decidable.not_not.mp h2
      x_go
      refine sel_i (fun h3 => ?_) (fun h3 => ?_)
      · x_go
        exact no fun z => h3 z.2.2.1
      · have h3 := Decidable.not_not.mp h3
        x_go
        refine sel_i (fun h4 => ?_) (fun h4 => ?_)
        · x_go
          exact no fun z => absurd z.2.2.2 (by omega)
        · x_go
          refine ⟨by omega, ⟨by simp only [put_next]; omega, fun n hn hx => ?_⟩, .inl ⟨⟨h1, h2, h3, by omega⟩, rfl, ?_⟩⟩
          · simp only [List.mem_cons, List.not_mem_nil, or_false, not_or] at hx
            obtain ⟨x1, x2, x3, x4⟩ := hx
            x_go
          · have pl : ∀ {l : List (Key × W)} {k : Key} {v : W}, l.length ≤ m → (putW l k v).length ≤ m + 1 := fun {l k v} h => Nat.le_trans putW_len (Nat.succ_le_succ h)
            have gc := dc.put d.s d.c
            have gh := dh.put d.s d.w
            have gu := du.put d.a d.n
            rw [h1] at gc
            rw [h2] at gh
            rw [h3] at gu
            exact ⟨put_get, ⟨_, by x_go; rfl, by show DI _ (fup t.cs d.s d.c); rw [h1]; exact gc, pl lc'⟩, ⟨_, by x_go; rfl, by show DI _ (fup t.hs d.s d.w); rw [h2]; exact gh, pl lh'⟩, ⟨_, by x_go; rfl, by show DI _ (fup t.us d.a d.n); rw [h3]; exact gu, pl lu'⟩, lj, lc, lh, lu, jc, jh, ju, ch, cu, hu'⟩
open Classical in
/-- the deeds that stand in a list -/
noncomputable def judgeM : JSt → Nat → List Deed → Option Nat
  | _, _, [] => none
  | t, i, d :: r => if t.lets d then judgeM (t.step d) (i + 1) r else some i
def jst0 : JSt := ⟨fun _ => 0, fun _ => 0, fun _ => 0, 0⟩
def optI : Option Nat → W
  | none => .non
  | some i => .int i
theorem Fr.refl {A : List Nat} {S : Sto} : Fr A S S := ⟨Nat.le_refl _, fun _ _ _ => rfl⟩
theorem Fr.trans {A B : List Nat} {S S1 S2 : Sto} (h : Fr A S S1) (g : Fr B S1 S2) (hB : ∀ n, n < S.next → n ∈ B → n ∈ A) : Fr A S S2 := ⟨Nat.le_trans h.le g.le, fun n hn hA => (g.eq n (Nat.lt_of_lt_of_le hn h.le) (fun z => hA (hB n hn z))).trans (h.eq n hn hA)⟩
def initQ (j : Nat) (S : Sto) : PQ := fun v S' => v = .non ∧ S'.next = S.next + 3 ∧ JS S' j S.next (S.next + 1) (S.next + 2) 0 jst0 ∧ Fr [j] S S'
theorem init_ok {T : Tab} (hT : T (.me .n_Judge .d_init) = some b_Judge_init) {k j : Nat} {S : Sto} {Z : PZ} (hj : S.get j = some (.ins .n_Judge [])) (lj : j < S.next) : (run T (k + 1) (.me .n_Judge .d_init) [.ref j] S).wp (initQ j S) Z := by
  refine run_q hT rfl ?_
  show (exec (run T k) b_Judge_init.body [some (.ref j)] S).wp _ _ _
  unfold b_Judge_init
  dsimp only
  x_go
  refine ⟨by omega, by omega, by omega, by omega, rfl, by x_go, ⟨put_get, ⟨[], by x_go, DI.nil, Nat.le_refl _⟩, ⟨[], by x_go, DI.nil, Nat.le_refl _⟩, ⟨[], by x_go, DI.nil, Nat.le_refl _⟩, ?_, ?_, ?_, ?_, ?_, ?_, ?_, ?_, ?_, ?_⟩, ⟨by simp only [new_next, put_next]; omega, fun n hn hx => ?_⟩⟩
  all_goals first | (simp only [new_next, put_next]; omega) | omega | skip
  have hx : n ≠ j := by simpa using hx
  x_go
theorem drop_at {α : Type} {l : List α} {i : Nat} {x : α} (h : l[i]? = some x) : l.drop i = x :: l.drop (i + 1) := by
  obtain ⟨hi, e⟩ := List.getElem?_eq_some_iff.mp h
  rw [List.drop_eq_getElem_cons hi, e]
theorem map_at {α : Type} {f : α → W} {l : List α} {i : Nat} {x : W} (h : (l.map f)[i]? = some x) : ∃ a, l[i]? = some a ∧ f a = x := by
  rw [List.getElem?_map] at h
  cases e : l[i]? with
  | none => rw [e] at h; cases h
  | some a => rw [e] at h; exact ⟨a, rfl, Option.some.inj h⟩
theorem at_lt {α : Type} {l : List α} {i : Nat} {x : α} (h : l[i]? = some x) : i < l.length := (List.getElem?_eq_some_iff.mp h).1
def judgeQ (r : Option Nat) (S : Sto) : PQ := fun v S' => v = optI r ∧ Fr [] S S'
theorem judge_ok {T : Tab} (hT : T (.fn .n_judge) = some b_judge) (hL : T (.me .n_Judge .n_lets) = some b_Judge_lets) (hI : T (.me .n_Judge .d_init) = some b_Judge_init) {k l : Nat} {ds : List Deed} {S : Sto} {Z : PZ} (hl : S.get l = some (.lst (ds.map Deed.v))) (ll : l < S.next) (hn : ds.length ≤ 100000) :
    (run T (k + 2) (.fn .n_judge) [.ref l] S).wp (judgeQ (judgeM jst0 0 ds) S) Z := by
  refine run_q hT rfl ?_
  show (exec (run T (k + 1)) b_judge.body [some (.ref l), none, none, none] S).wp _ _ _
  unfold b_judge
  dsimp only
  x_go
  refine R.wp_mono (init_ok hI new_get (by simp only [new_next]; omega)) (fun v S1 ⟨ev, en, J, fr⟩ => ?_) (fun _ _ z => z)
  subst ev
  have hl1 : S1.get l = some (.lst (ds.map Deed.v)) := by
    rw [fr.eq l (by simp only [new_next]; omega) (by simp; omega), new_ne ll]; exact hl
  have n1 : S1.next = S.next + 4 := en
  x_go
  refine forE_list (vs := ds.map Deed.v) (by x_go) (fun i σ S' => ∃ t o1 o2, σ = [some (.ref l), some (.ref S.next), o1, o2] ∧ JS S' S.next (S.next + 1) (S.next + 2) (S.next + 3) i t ∧ judgeM jst0 0 ds = judgeM t i (ds.drop i) ∧ Fr [] S S' ∧ S'.get l = some (.lst (ds.map Deed.v)))
    ⟨jst0, none, none, rfl, J, rfl, ⟨by omega, fun n hn _ => by rw [fr.eq n (by simp only [new_next]; omega) (by simp; omega), new_ne hn]⟩, hl1⟩ (fun i σ S' hi ⟨t, o1, o2, e, J, q, fr, hl⟩ => by rw [hl]; rfl) (fun i x σ S' hx ⟨t, o1, o2, e, Jx, q, frx, hlx⟩ => ?_) (fun σ S' ⟨t, o1, o2, e, Jx, q, frx, hlx⟩ => ?_)
  · subst e
    obtain ⟨d, hd, ex⟩ := map_at hx
    subst ex
    have hi := at_lt hd
    have ho := Jx.obj
    have lj := Jx.lj
    rw [drop_at hd] at q
    x_go
    refine R.wp_mono (lets_ok hL Jx (by omega)) (fun v S2 ⟨f2, h2⟩ => ?_) (fun _ _ z => z)
    have frS : Fr [] S S2 := frx.trans f2 (fun n hn hx => by
      simp only [List.mem_cons, List.not_mem_nil, or_false] at hx
      omega)
    have hl2 : S2.get l = some (.lst (ds.map Deed.v)) := (frS.eq l ll (by simp)).trans hl
    rcases h2 with ⟨hy, ev, J2⟩ | ⟨hy, ev⟩
    · subst ev
      have hj : judgeM t i (d :: ds.drop (i + 1)) = judgeM (t.step d) (i + 1) (ds.drop (i + 1)) := by rw [judgeM, if_pos hy]
      x_go
      exact ⟨_, _, _, rfl, J2, rfl⟩
    · subst ev
      have hj : judgeM t i (d :: ds.drop (i + 1)) = some i := by rw [judgeM, if_neg hy]
      x_go
      exact ⟨rfl, frS⟩
  · subst e
    have ed : ds.drop (ds.map Deed.v).length = [] := by rw [List.length_map, List.drop_length]
    rw [ed] at q
    x_go
    exact ⟨rfl, frx⟩
end D
end

section
/-! Comprehensions in the plain layer. -/
namespace D
open PySem L2
theorem new_put {S : Sto} {d e : Nd} : (S.new d).put S.next e = S.new e := by
  unfold Sto.new Sto.put
  congr 1
  funext m
  dsimp only
  split <;> rfl
theorem put_put {S : Sto} {n : Nat} {d e : Nd} : (S.put n d).put n e = S.put n e := by
  unfold Sto.put
  congr 1
  funext m
  dsimp only
  split <;> rfl
section
variable (c : Call) (σ : Env) (Q : PQ) (Z : PZ)
def lcGo (xs : List Nat) (one : Bool) (elt cnd : E) (S1 : Sto) (w : Iw) : Prop := (walkI w (lcTurn S1.next σ xs one (testOf c cnd) fun σ S => eval c elt σ S) () (S1.new (.lst []))).wp (fun _ S2 => Q (.ref S1.next) S2) Z
def kLc (xs : List Nat) (one : Bool) (elt cnd : E) (S : Sto) : PQ := fun v S1 => isDct S v = none ∧ optP (iterW v S1) (lcGo c σ Q Z xs one elt cnd S1)
end
section
variable {c : Call} {σ : Env} {Q : PQ} {Z : PZ} {xs : List Nat} {one : Bool} {it elt cnd : E} {S : Sto}
theorem y_lc (h : (eval c it σ S).wp (kLc c σ Q Z xs one elt cnd S) Z) : (eval c (.lc xs one it elt cnd) σ S).wp Q Z := by
  simp only [eval]
  cases e : eval c it σ S with
  | no => rw [e] at h; exact h
  | ex x S1 => rw [e] at h; exact h
  | ok v S1 =>
    rw [e] at h
    obtain ⟨h1, h2⟩ := h
    simp only [R.bind, h1]
    cases g : iterW v S1 with
    | none => rw [g] at h2; exact False.elim h2
    | some w =>
      rw [g] at h2
      show R.wp _ Q Z
      have h3 : (walkI w (lcTurn S1.next σ xs one (testOf c cnd) fun σ S => eval c elt σ S) () (S1.new (.lst []))).wp (fun _ S2 => Q (.ref S1.next) S2) Z := h2
      have go : ((walkI w (lcTurn S1.next σ xs one (testOf c cnd) fun σ S => eval c elt σ S) () (S1.new (.lst []))).bind fun _ S2 => R.ok (W.ref S1.next) S2).wp Q Z := by
        rw [R.wp_bind]; exact h3
      exact go
/-- what a turn does, the store as it was -/
structure Pur (c : Call) (σ : Env) (xs : List Nat) (one : Bool) (elt cnd : E) (S : Sto) (x : W) (b : Bool) (v : W) : Prop where
  go : optP (takeT xs one x (wipeW σ xs)) fun σ' => (match testOf c cnd with
    | none => b = true
    | some t => (t σ' S).wp (fun w S' => w = .bl b ∧ S' = S) noZ) ∧ (b = true → (eval c elt σ' S).wp (fun w S' => w = v ∧ S' = S) noZ)
theorem wp_eq {α : Type} {m : R α} {a : α} {S : Sto} (h : m.wp (fun w S' => w = a ∧ S' = S) noZ) : m = .ok a S := by
  cases m with
  | ok w S' => obtain ⟨h1, h2⟩ := h; rw [h1, h2]
  | ex x S => exact False.elim h
  | no => exact False.elim h
theorem pur_turn {S1 : Sto} {acc : List W} {x v : W} {b : Bool} (h : Pur c σ xs one elt cnd (S1.new (.lst acc)) x b v) (hl : acc.length ≤ lim) :
    lcTurn S1.next σ xs one (testOf c cnd) (fun σ S => eval c elt σ S) x () (S1.new (.lst acc)) = .ok () (S1.new (.lst (if b then acc ++ [v] else acc))) := by
  obtain ⟨h⟩ := h
  unfold lcTurn
  cases e : takeT xs one x (wipeW σ xs) with
  | none => rw [e] at h; exact False.elim h
  | some σ' =>
    rw [e] at h
    obtain ⟨h1, h2⟩ := h
    dsimp only
    have add : b = true → ((eval c elt σ' (S1.new (.lst acc))).noex.bind fun v S => match S.get S1.next with
        | some (.lst acc) => if acc.length ≤ lim then R.ok () (S.put S1.next (.lst (acc ++ [v]))) else .no
        | _ => .no) = .ok () (S1.new (.lst (if b then acc ++ [v] else acc))) := fun hb => by
      have h3 := wp_eq (h2 hb)
      rw [h3]
      simp only [R.noex, R.bind, new_get, if_pos hl, new_put, hb, if_true]
    cases t : testOf c cnd with
    | none =>
      rw [t] at h1
      exact add h1
    | some f =>
      rw [t] at h1
      have h3 := wp_eq h1
      simp only
      rw [h3]
      cases b with
      | true => exact add rfl
      | false => rfl
/-- what a comprehension makes of its values -/
def lcVals (bf : Nat → W → Bool) (gf : Nat → W → W) : Nat → List W → List W
  | _, [] => []
  | i, x :: r => if bf i x then gf i x :: lcVals bf gf (i + 1) r else lcVals bf gf (i + 1) r
theorem lcVals_cons {bf : Nat → W → Bool} {gf : Nat → W → W} {i : Nat} {x : W} {r : List W} : lcVals bf gf i (x :: r) = if bf i x then gf i x :: lcVals bf gf (i + 1) r else lcVals bf gf (i + 1) r := rfl
theorem lcVals_len {bf : Nat → W → Bool} {gf : Nat → W → W} : ∀ {i : Nat} {vs : List W}, (lcVals bf gf i vs).length ≤ vs.length
  | _, [] => Nat.le_refl _
  | i, x :: r => by
    unfold lcVals
    have := lcVals_len (bf := bf) (gf := gf) (i := i + 1) (vs := r)
    split <;> simp only [List.length_cons] <;> omega
theorem lc_walk {S1 : Sto} {bf : Nat → W → Bool} {gf : Nat → W → W} : ∀ {vs : List W} {i : Nat} {acc : List W}, acc.length + vs.length ≤ lim → (∀ j x acc, vs[j]? = some x → Pur c σ xs one elt cnd (S1.new (.lst acc)) x (bf (i + j) x) (gf (i + j) x)) →
    walk (lcTurn S1.next σ xs one (testOf c cnd) fun σ S => eval c elt σ S) vs () (S1.new (.lst acc)) = .ok () (S1.new (.lst (acc ++ lcVals bf gf i vs)))
  | [], i, acc, _, _ => by simp [walk, lcVals]
  | x :: r, i, acc, hl, h => by
    simp only [List.length_cons] at hl
    have h0 := h 0 x acc rfl
    unfold walk
    rw [pur_turn h0 (by omega)]
    simp only [R.bind, Nat.add_zero]
    have hr : ∀ j y acc, r[j]? = some y → Pur c σ xs one elt cnd (S1.new (.lst acc)) y (bf (i + 1 + j) y) (gf (i + 1 + j) y) := fun j y acc hy => by
      have := h (j + 1) y acc hy
      rw [show i + (j + 1) = i + 1 + j by omega] at this
      exact this
    cases hb : bf i x with
    | true =>
      simp only [if_true]
      rw [lc_walk (by simp; omega) hr]
      simp only [lcVals_cons, hb, if_true, List.append_assoc, List.cons_append, List.nil_append, Bool.false_eq_true, if_false]
    | false =>
      simp only [Bool.false_eq_true, if_false]
      rw [lc_walk (by omega) hr]
      simp only [lcVals_cons, hb, if_true, List.append_assoc, List.cons_append, List.nil_append, Bool.false_eq_true, if_false]
theorem lc_walkL {S1 : Sto} {n : Nat} {vs : List W} (hn : n < S1.next) (hg : nodL (S1.get n) = some vs) {bf : Nat → W → Bool} {gf : Nat → W → W} : ∀ {k i : Nat} {acc : List W}, i + k = vs.length → acc.length + k ≤ lim → (∀ j x acc, vs[j]? = some x → Pur c σ xs one elt cnd (S1.new (.lst acc)) x (bf j x) (gf j x)) →
    walkL n (lcTurn S1.next σ xs one (testOf c cnd) fun σ S => eval c elt σ S) k i () (S1.new (.lst acc)) = .ok () (S1.new (.lst (acc ++ lcVals bf gf i (vs.drop i))))
  | 0, i, acc, hk, _, _ => by
    have hi : i = vs.length := by omega
    subst hi
    unfold walkL
    rw [new_ne hn]
    unfold nodL at hg
    cases g : S1.get n with
    | none => rw [g] at hg; cases hg
    | some d =>
      rw [g] at hg
      cases d with
      | lst ys => cases hg; simp [lcVals]
      | frz ys => cases hg; simp [lcVals]
      | _ => cases hg
  | k + 1, i, acc, hk, hl, h => by
    have hi : i < vs.length := by omega
    have ex : vs[i]? = some vs[i] := List.getElem?_eq_getElem hi
    have one : ((lcTurn S1.next σ xs one (testOf c cnd) (fun σ S => eval c elt σ S) vs[i] () (S1.new (.lst acc))).bind fun a S => walkL n (lcTurn S1.next σ xs one (testOf c cnd) fun σ S => eval c elt σ S) k (i + 1) a S) = .ok () (S1.new (.lst (acc ++ lcVals bf gf i (vs.drop i)))) := by
      rw [pur_turn (h i _ acc ex) (by omega)]
      simp only [R.bind]
      rw [drop_at ex]
      cases hb : bf i vs[i] with
      | true =>
        simp only [if_true]
        rw [lc_walkL hn hg (by omega) (by simp; omega) h]
        simp only [lcVals_cons, hb, if_true, List.append_assoc, List.cons_append, List.nil_append, Bool.false_eq_true, if_false]
      | false =>
        simp only [Bool.false_eq_true, if_false]
        rw [lc_walkL hn hg (by omega) (by omega) h]
        simp only [lcVals_cons, hb, if_true, List.append_assoc, List.cons_append, List.nil_append, Bool.false_eq_true, if_false]
    unfold walkL
    rw [new_ne hn]
    unfold nodL at hg
    cases g : S1.get n with
    | none => rw [g] at hg; cases hg
    | some d =>
      rw [g] at hg
      cases d with
      | lst ys => cases hg; simp only [ex]; exact one
      | frz ys => cases hg; simp only [ex]; exact one
      | _ => cases hg
theorem lc_list_i {n : Nat} {vs : List W} (bf : Nat → W → Bool) (gf : Nat → W → W) (hn : n < S.next) (hg : nodL (S.get n) = some vs) (hl : vs.length ≤ lim) (h : ∀ j x acc, vs[j]? = some x → Pur c σ xs one elt cnd (S.new (.lst acc)) x (bf j x) (gf j x)) (q : Q (.ref S.next) (S.new (.lst (lcVals bf gf 0 vs)))) : kLc c σ Q Z xs one elt cnd S (.ref n) S := by
  refine ⟨isDct_nod hg, ?_⟩
  have ei : iterW (.ref n) S = some (.list n vs.length) := by
    unfold nodL at hg
    simp only [iterW]
    cases g : S.get n with
    | none => rw [g] at hg; cases hg
    | some d =>
      rw [g] at hg
      cases d with
      | lst ys => cases hg; rfl
      | frz ys => cases hg; rfl
      | _ => cases hg
  rw [ei]
  show R.wp _ _ Z
  simp only [walkI]
  rw [lc_walkL hn hg (by omega) (by simpa using hl) h]
  exact q
theorem lc_tup_i {vs : List W} {S0 : Sto} (bf : Nat → W → Bool) (gf : Nat → W → W) (hl : vs.length ≤ lim) (h : ∀ j x acc, vs[j]? = some x → Pur c σ xs one elt cnd (S.new (.lst acc)) x (bf j x) (gf j x)) (q : Q (.ref S.next) (S.new (.lst (lcVals bf gf 0 vs)))) : kLc c σ Q Z xs one elt cnd S0 (.tup vs) S := by
  refine ⟨rfl, ?_⟩
  show R.wp _ _ Z
  simp only [walkI]
  rw [lc_walk (i := 0) (by simpa using hl) (by intro j x acc hx; rw [Nat.zero_add]; exact h j x acc hx)]
  exact q
/-- over the image of a list -/
theorem lcVals_map {α : Type} {f : α → W} {b : α → Bool} {g : α → W} {bf : Nat → W → Bool} {gf : Nat → W → W} : ∀ {l : List α} {i : Nat}, (∀ j a, l[j]? = some a → bf (i + j) (f a) = b a ∧ (b a = true → gf (i + j) (f a) = g a)) → lcVals bf gf i (l.map f) = (l.filter b).map g
  | [], _, _ => rfl
  | a :: l, i, h => by
    have h0 := h 0 a rfl
    have ih := lcVals_map (f := f) (b := b) (g := g) (bf := bf) (gf := gf) (l := l) (i := i + 1) fun j x hx => by
      have := h (j + 1) x hx
      rw [show i + (j + 1) = i + 1 + j by omega] at this
      exact this
    rw [List.map_cons]
    rw [Nat.add_zero] at h0
    rw [lcVals_cons, h0.1, ih]
    cases hb : b a with
    | true => simp [hb, h0.2 hb]
    | false => simp [hb]
/-! by names -/
def isQ (v : W) (S : Sto) : PQ := fun w S' => w = v ∧ S' = S
def pTest (n : Bool) (c : Call) (cnd : E) (σ : Env) (S : Sto) (b : Bool) : Prop := if n = true then b = true else (eval c cnd σ S).wp (isQ (.bl b) S) noZ
def kPur (c : Call) (elt cnd : E) (S : Sto) (b : Bool) (v : W) (o : Option Env) : Prop := optP o fun σ' => pTest (isNo cnd) c cnd σ' S b ∧ (b = true → (eval c elt σ' S).wp (isQ v S) noZ)
theorem h_Pur {σ' : Env} {b : Bool} {v : W} : kPur c elt cnd S b v (some σ') = (pTest (isNo cnd) c cnd σ' S b ∧ (b = true → (eval c elt σ' S).wp (isQ v S) noZ)) := rfl
theorem pT_t {σ' : Env} {b : Bool} : pTest true c cnd σ' S b = (b = true) := rfl
theorem pT_f {σ' : Env} {b : Bool} : pTest false c cnd σ' S b = (eval c cnd σ' S).wp (isQ (.bl b) S) noZ := rfl
theorem isQ_i {v w : W} : isQ v S w S = (w = v) := by simp [isQ]
theorem wipe_nil : wipeW σ [] = σ := rfl
theorem wipe_cons {i : Nat} {is : List Nat} : wipeW σ (i :: is) = (wipeW σ is).set i none := rfl
theorem pur_of {x v : W} {b : Bool} (h : kPur c elt cnd S b v (takeT xs one x (wipeW σ xs))) : Pur c σ xs one elt cnd S x b v := by
  refine ⟨?_⟩
  cases e : takeT xs one x (wipeW σ xs) with
  | none => rw [e] at h; exact h
  | some σ' =>
    rw [e] at h
    obtain ⟨h1, h2⟩ := h
    refine ⟨?_, h2⟩
    cases cnd <;> exact h1
theorem lc_map_i {α : Type} {n : Nat} {l : List α} (f : α → W) (b : α → Bool) (g : α → W) (hn : n < S.next) (hg : nodL (S.get n) = some (l.map f)) (hl : l.length ≤ lim) (h : ∀ a acc, a ∈ l → kPur c elt cnd (S.new (.lst acc)) (b a) (g a) (takeT xs one (f a) (wipeW σ xs))) (q : Q (.ref S.next) (S.new (.lst ((l.filter b).map g)))) : kLc c σ Q Z xs one elt cnd S (.ref n) S := by
  have e := lcVals_map (f := f) (b := b) (g := g) (bf := fun j _ => match l[j]? with | some a => b a | none => false) (gf := fun j _ => match l[j]? with | some a => g a | none => .non) (l := l) (i := 0) fun j a ha => by
    simp only [Nat.zero_add, ha]; exact ⟨trivial, fun _ => trivial⟩
  refine lc_list_i (fun j _ => match l[j]? with | some a => b a | none => false) (fun j _ => match l[j]? with | some a => g a | none => .non) hn hg (by simpa using hl) (fun j x acc hx => ?_) (by rw [e]; exact q)
  obtain ⟨a, ha, ex⟩ := map_at hx
  subst ex
  simp only [ha]
  exact pur_of (h a acc (List.mem_of_getElem? ha))
theorem lc_tmap_i {α : Type} {S0 : Sto} {l : List α} (f : α → W) (b : α → Bool) (g : α → W) (hl : l.length ≤ lim) (h : ∀ a acc, a ∈ l → kPur c elt cnd (S.new (.lst acc)) (b a) (g a) (takeT xs one (f a) (wipeW σ xs))) (q : Q (.ref S.next) (S.new (.lst ((l.filter b).map g)))) : kLc c σ Q Z xs one elt cnd S0 (.tup (l.map f)) S := by
  have e := lcVals_map (f := f) (b := b) (g := g) (bf := fun j _ => match l[j]? with | some a => b a | none => false) (gf := fun j _ => match l[j]? with | some a => g a | none => .non) (l := l) (i := 0) fun j a ha => by
    simp only [Nat.zero_add, ha]; exact ⟨trivial, fun _ => trivial⟩
  refine lc_tup_i (fun j _ => match l[j]? with | some a => b a | none => false) (fun j _ => match l[j]? with | some a => g a | none => .non) (by simpa using hl) (fun j x acc hx => ?_) (by rw [e]; exact q)
  obtain ⟨a, ha, ex⟩ := map_at hx
  subst ex
  simp only [ha]
  exact pur_of (h a acc (List.mem_of_getElem? ha))
end
theorem lc_all_i {c : Call} {σ : Env} {Q : PQ} {Z : PZ} {xs : List Nat} {one : Bool} {elt cnd : E} {S : Sto} {α : Type} {n : Nat} {l : List α} (f : α → W) (g : α → W) (hn : n < S.next) (hg : nodL (S.get n) = some (l.map f)) (hl : l.length ≤ lim) (h : ∀ a acc, a ∈ l → kPur c elt cnd (S.new (.lst acc)) true (g a) (takeT xs one (f a) (wipeW σ xs))) (q : Q (.ref S.next) (S.new (.lst (l.map g)))) : kLc c σ Q Z xs one elt cnd S (.ref n) S :=
  lc_map_i f (fun _ => true) g hn hg hl h (by rw [List.filter_eq_self.mpr fun _ _ => rfl]; exact q)
def lz (xs : List Int) : Int := xs.getLast?.getD 0
theorem at_last {xs : List Int} : atI (.int 0 :: xs.map W.int) (-1) = some (.int (lz xs)) := by
  rw [at_neg (by omega) (by simp only [List.length_cons]; omega)]
  have e : (-1 + ((W.int 0 :: xs.map W.int).length : Int)).toNat = xs.length := by simp only [List.length_cons, List.length_map]; omega
  rw [e]
  unfold lz
  cases h : xs.getLast? with
  | none =>
    have : xs = [] := by simpa using h
    subst this; rfl
  | some z =>
    have hx : xs ≠ [] := by intro q; subst q; cases h
    obtain ⟨ys, y, rfl⟩ : ∃ ys y, xs = ys ++ [y] := ⟨xs.dropLast, xs.getLast hx, (List.dropLast_concat_getLast hx).symm⟩
    simp at h
    subst h
    simp
theorem at_last' {α : Type} {l : List α} {g : α → Int} : atI (.int 0 :: l.map fun a => W.int (g a)) (-1) = some (.int (lz (l.map g))) := by
  rw [← at_last, List.map_map]; rfl
theorem val_same {kvs : List (Key × W)} {k : Key} {v : W} : valW (putW kvs k v) k = some v := by rw [valW_put, if_pos rfl]
theorem cut2_1 {x y : W} : cutW [x, y] (some 1) none = [y] := rfl
theorem forT_rng0 {c : Call} {σ : Env} {S : Sto} {N : PN} {V : PQ} {X : PX} {s : D.S} {xs : List Nat} {one : Bool} {hi : Int} (I : Nat → Env → Sto → Prop) (h0 : I 0 σ S) (hs : ∀ (i : Nat) σ S, (i : Int) < hi → I i σ S → kTurn c (I (i + 1)) V X s S (takeT xs one (.int i) σ)) (hd : ∀ σ S, I hi.toNat σ S → N σ S) :
    kForT c σ N V X xs one s (.tup (rangeW 0 hi)) S := forT_rng I h0 (fun i σ S h g => by rw [show (0 : Int) + (i : Int) = i by omega]; exact hs i σ S (by omega) g) (fun σ S h => hd σ S (by rw [show hi - 0 = hi by omega] at h; exact h))
end D
end

section
/-! Shares, with no program in sight: owners that are shared step by step are the first of all that are even and move the fewest. -/
namespace D
def ct (xs : List Int) (h : Int) : Int := (xs.count h : Int)
def up1 (u : Int → Int) (h d : Int) : Int → Int := fun k => if k = h then u k + d else u k
def b01 (p : Prop) [Decidable p] : Int := if p then 1 else 0
def KK (hs rest : List Int) (n : Int → Int) : Int := (hs.map fun h => min (ct rest h) (n h)).sum
def tg (sh : Int) (M : List Int) (h : Int) : Int := sh + b01 (h ∈ M)
section
variable (sh : Int) (rest : List Int) (u : Int → Int)
def F1 (h : Int) : Int := if sh - u h < 0 then 1 else 0
def G1 (h : Int) : Int := if sh - u h < 0 then 0 else b01 (ct rest h > sh - u h)
def K1 (h : Int) : Int := if sh - u h < 0 then 0 else min (ct rest h) (sh - u h)
def Fo (hs : List Int) : Int := (hs.map (F1 sh u)).sum
def Gn (hs : List Int) : Int := (hs.map (G1 sh rest u)).sum
def Kp (hs : List Int) : Int := (hs.map (K1 sh rest u)).sum
def mkept (hs : List Int) (ov : Int) : Option Int := if ∃ h ∈ hs, sh - u h < -1 then none else if Fo sh u hs > ov then none else some (Kp sh rest u hs + min (Gn sh rest u hs) (ov - Fo sh u hs))
end
theorem b01_t {p : Prop} [Decidable p] (h : p) : b01 p = 1 := if_pos h
theorem b01_f {p : Prop} [Decidable p] (h : ¬p) : b01 p = 0 := if_neg h
theorem b01_b {p : Prop} [Decidable p] : 0 ≤ b01 p ∧ b01 p ≤ 1 := by unfold b01; split <;> omega
theorem b01_c {p q : Prop} [Decidable p] [Decidable q] (h : p ↔ q) : b01 p = b01 q := by
  by_cases g : p
  · rw [b01_t g, b01_t (h.mp g)]
  · rw [b01_f g, b01_f (fun z => g (h.mpr z))]
theorem ct_nn {xs : List Int} {h : Int} : 0 ≤ ct xs h := by unfold ct; omega
theorem ct_cons {xs : List Int} {h o : Int} : ct (o :: xs) h = ct xs h + b01 (o = h) := by
  unfold ct
  rw [List.count_cons]
  by_cases e : o = h
  · rw [b01_t e, if_pos (by simpa using e)]; omega
  · rw [b01_f e, if_neg (by simpa using e)]; omega
section
variable {sh : Int} {rest : List Int} {u : Int → Int}
theorem bounds : ∀ hs : List Int, 0 ≤ Fo sh u hs ∧ 0 ≤ Gn sh rest u hs ∧ Fo sh u hs + Gn sh rest u hs ≤ hs.length
  | [] => by simp [Fo, Gn]
  | h :: t => by
    obtain ⟨i1, i2, i3⟩ := bounds t
    simp only [Fo, Gn, List.map_cons, List.sum_cons, List.length_cons] at i1 i2 i3 ⊢
    have := b01_b (p := ct rest h > sh - u h)
    by_cases nf : sh - u h < 0
    · have f1 : F1 sh u h = 1 := if_pos nf
      have g1 : G1 sh rest u h = 0 := if_pos nf
      omega
    · have f1 : F1 sh u h = 0 := if_neg nf
      have g1 : G1 sh rest u h = b01 (ct rest h > sh - u h) := if_neg nf
      omega
theorem kk_cons {h : Int} {t : List Int} {n : Int → Int} : KK (h :: t) rest n = min (ct rest h) (n h) + KK t rest n := by
  simp [KK]
theorem kk_congr {hs : List Int} {n m : Int → Int} (e : ∀ h ∈ hs, n h = m h) : KK hs rest n = KK hs rest m := by
  unfold KK
  congr 1
  exact List.map_congr_left fun h m => by rw [e h m]
theorem tg_in {M : List Int} {h k : Int} (e : k ≠ h) : tg sh (h :: M) k = tg sh M k := by
  unfold tg
  congr 1
  exact b01_c (by simp [e])
theorem tg_own {M : List Int} {h : Int} : tg sh (h :: M) h = sh + 1 := by
  unfold tg; rw [b01_t List.mem_cons_self]
theorem tg_out {M : List Int} {h : Int} (e : h ∉ M) : tg sh M h = sh := by
  unfold tg; rw [b01_f e]; omega
theorem mk_le : ∀ {hs M : List Int}, hs.Nodup → M.Sublist hs → (∀ h ∈ hs, u h ≤ tg sh M h) →
    KK hs rest (fun h => tg sh M h - u h) ≤ Kp sh rest u hs + min (Gn sh rest u hs) (M.length - Fo sh u hs) ∧ Fo sh u hs ≤ M.length ∧ ∀ h ∈ hs, ¬ (sh - u h < -1)
  | [], M, _, hM, _ => by
    have e := List.sublist_nil.mp hM
    subst e
    refine ⟨by simp [KK, Kp, Gn, Fo], by simp [Fo], fun h m => by simp at m⟩
  | h :: t, M, nd, hM, hv => by
    obtain ⟨nh, nt⟩ := List.nodup_cons.mp nd
    cases hM with
    | cons _ hM =>
      have hh : h ∉ M := fun m => nh (hM.subset m)
      obtain ⟨i1, i2, i3⟩ := mk_le nt hM fun k m => hv k (List.mem_cons_of_mem _ m)
      have v0 := hv h List.mem_cons_self
      rw [tg_out hh] at v0
      have c0 := ct_nn (xs := rest) (h := h)
      rw [kk_cons]
      simp only [Kp, Gn, Fo, List.map_cons, List.sum_cons] at i1 i2 ⊢
      have nf : ¬ (sh - u h < 0) := by omega
      have bb := b01_b (p := ct rest h > sh - u h)
      rw [tg_out hh]
      unfold F1 G1 K1 at *
      rw [if_neg nf, if_neg nf, if_neg nf]
      refine ⟨by omega, by omega, fun k m => ?_⟩
      rcases List.mem_cons.mp m with e | m
      · rw [e]; omega
      · exact i3 k m
    | cons_cons _ hM =>
      rename_i M'
      have hh : h ∉ M' := fun m => nh (hM.subset m)
      have et : ∀ k ∈ t, tg sh (h :: M') k = tg sh M' k := fun k m => tg_in fun e => nh (e ▸ m)
      obtain ⟨i1, i2, i3⟩ := mk_le nt hM fun k m => by rw [← et k m]; exact hv k (List.mem_cons_of_mem _ m)
      have v0 := hv h List.mem_cons_self
      rw [tg_own] at v0
      have c0 := ct_nn (xs := rest) (h := h)
      rw [kk_cons, kk_congr (m := fun h => tg sh M' h - u h) fun k m => by rw [et k m]]
      simp only [Kp, Gn, Fo, List.map_cons, List.sum_cons, List.length_cons] at i1 i2 ⊢
      rw [tg_own]
      refine ⟨?_, ?_, fun k m => ?_⟩
      · by_cases nf : sh - u h < 0
        · unfold F1 G1 K1 at *
          rw [if_pos nf, if_pos nf, if_pos nf]
          omega
        · by_cases g : ct rest h > sh - u h
          · unfold F1 G1 K1 at *
            rw [if_neg nf, if_neg nf, if_neg nf, b01_t g]
            omega
          · unfold F1 G1 K1 at *
            rw [if_neg nf, if_neg nf, if_neg nf, b01_f g]
            omega
      · unfold F1 at *
        split <;> omega
      · rcases List.mem_cons.mp m with e | m
        · rw [e]; omega
        · exact i3 k m
theorem mk_ex : ∀ {hs : List Int} {o : Nat}, hs.Nodup → (∀ h ∈ hs, ¬ (sh - u h < -1)) → Fo sh u hs ≤ o → o ≤ hs.length →
    ∃ M : List Int, M.Sublist hs ∧ M.length = o ∧ (∀ h ∈ hs, u h ≤ tg sh M h) ∧ KK hs rest (fun h => tg sh M h - u h) = Kp sh rest u hs + min (Gn sh rest u hs) (o - Fo sh u hs)
  | [], o, _, _, _, ho => by
    have e : o = 0 := by simpa using ho
    subst e
    exact ⟨[], .slnil, rfl, fun h m => by simp at m, by simp [KK, Kp, Gn, Fo]⟩
  | h :: t, o, nd, hb, hf, ho => by
    obtain ⟨nh, nt⟩ := List.nodup_cons.mp nd
    have b0 := hb h List.mem_cons_self
    have bt : ∀ k ∈ t, ¬ (sh - u k < -1) := fun k m => hb k (List.mem_cons_of_mem _ m)
    have c0 := ct_nn (xs := rest) (h := h)
    obtain ⟨z1, z2, z3⟩ := bounds (sh := sh) (rest := rest) (u := u) t
    have ef : Fo sh u (h :: t) = F1 sh u h + Fo sh u t := by simp [Fo]
    have eg : Gn sh rest u (h :: t) = G1 sh rest u h + Gn sh rest u t := by simp [Gn]
    have ek : Kp sh rest u (h :: t) = K1 sh rest u h + Kp sh rest u t := by simp [Kp]
    rw [ef] at hf
    simp only [List.length_cons] at ho
    have take : ∀ o' : Nat, o = o' + 1 → Fo sh u t ≤ o' → o' ≤ t.length → min (ct rest h) (sh + 1 - u h) + (Kp sh rest u t + min (Gn sh rest u t) (o' - Fo sh u t)) = Kp sh rest u (h :: t) + min (Gn sh rest u (h :: t)) (o - Fo sh u (h :: t)) →
        ∃ M : List Int, M.Sublist (h :: t) ∧ M.length = o ∧ (∀ k ∈ h :: t, u k ≤ tg sh M k) ∧ KK (h :: t) rest (fun h => tg sh M h - u h) = Kp sh rest u (h :: t) + min (Gn sh rest u (h :: t)) (o - Fo sh u (h :: t)) := fun o' e1 e2 e3 e4 => by
      obtain ⟨M, m1, m2, m3, m4⟩ := mk_ex nt bt e2 e3
      have et : ∀ k ∈ t, tg sh (h :: M) k = tg sh M k := fun k m => tg_in fun e => nh (e ▸ m)
      refine ⟨h :: M, m1.cons_cons h, by rw [List.length_cons, m2, e1], fun k m => ?_, ?_⟩
      · rcases List.mem_cons.mp m with e | m
        · rw [e, tg_own]; omega
        · rw [et k m]; exact m3 k m
      · rw [kk_cons, kk_congr (m := fun h => tg sh M h - u h) fun k m => by rw [et k m], m4, tg_own]
        exact e4
    have leave : Fo sh u t ≤ o → o ≤ t.length → ¬ (sh - u h < 0) → min (ct rest h) (sh - u h) + (Kp sh rest u t + min (Gn sh rest u t) (o - Fo sh u t)) = Kp sh rest u (h :: t) + min (Gn sh rest u (h :: t)) (o - Fo sh u (h :: t)) →
        ∃ M : List Int, M.Sublist (h :: t) ∧ M.length = o ∧ (∀ k ∈ h :: t, u k ≤ tg sh M k) ∧ KK (h :: t) rest (fun h => tg sh M h - u h) = Kp sh rest u (h :: t) + min (Gn sh rest u (h :: t)) (o - Fo sh u (h :: t)) := fun e2 e3 e5 e4 => by
      obtain ⟨M, m1, m2, m3, m4⟩ := mk_ex nt bt e2 e3
      have hh : h ∉ M := fun m => nh (m1.subset m)
      refine ⟨M, m1.cons h, m2, fun k m => ?_, ?_⟩
      · rcases List.mem_cons.mp m with e | m
        · rw [e, tg_out hh]; omega
        · exact m3 k m
      · rw [kk_cons, m4, tg_out hh]
        exact e4
    rw [ef, eg, ek] at take leave ⊢
    by_cases nf : sh - u h < 0
    · have f1 : F1 sh u h = 1 := if_pos nf
      have g1 : G1 sh rest u h = 0 := if_pos nf
      have k1 : K1 sh rest u h = 0 := if_pos nf
      rw [f1, g1, k1] at take
      rw [f1] at hf
      rw [f1, g1, k1]
      exact take (o - 1) (by omega) (by omega) (by omega) (by omega)
    · have f1 : F1 sh u h = 0 := if_neg nf
      have k1 : K1 sh rest u h = min (ct rest h) (sh - u h) := if_neg nf
      rw [f1] at hf
      by_cases g : ct rest h > sh - u h
      · have g1 : G1 sh rest u h = 1 := by unfold G1; rw [if_neg nf, b01_t g]
        rw [f1, g1, k1] at take leave ⊢
        by_cases q : Fo sh u t < o
        · exact take (o - 1) (by omega) (by omega) (by omega) (by omega)
        · exact leave (by omega) (by omega) nf (by omega)
      · have g1 : G1 sh rest u h = 0 := by unfold G1; rw [if_neg nf, b01_f g]
        rw [f1, g1, k1] at take leave ⊢
        by_cases q : o ≤ t.length
        · exact leave (by omega) q nf (by omega)
        · exact take (o - 1) (by omega) (by omega) (by omega) (by omega)
end
/-! ### the choices -/
def chs : List Int → Nat → List (List Int)
  | _, 0 => [[]]
  | [], _ + 1 => []
  | h :: t, n + 1 => (chs t n).map (h :: ·) ++ chs t (n + 1)
theorem mem_chs : ∀ {hs : List Int} {n : Nat} {M : List Int}, M ∈ chs hs n ↔ M.Sublist hs ∧ M.length = n
  | hs, 0, M => by
    have : chs hs 0 = [[]] := by unfold chs; cases hs <;> rfl
    rw [this]
    simp only [List.mem_singleton]
    constructor
    · intro e; subst e; exact ⟨List.nil_sublist _, rfl⟩
    · intro ⟨_, e⟩; exact List.eq_nil_of_length_eq_zero e
  | [], n + 1, M => by
    simp only [chs, List.not_mem_nil, List.sublist_nil, false_iff, not_and]
    intro e; subst e; simp
  | h :: t, n + 1, M => by
    simp only [chs, List.mem_append, List.mem_map]
    constructor
    · rintro (⟨M', m, e⟩ | m)
      · subst e
        obtain ⟨m1, m2⟩ := mem_chs.mp m
        exact ⟨m1.cons_cons h, by simp [m2]⟩
      · obtain ⟨m1, m2⟩ := mem_chs.mp m
        exact ⟨m1.cons h, m2⟩
    · rintro ⟨m1, m2⟩
      cases m1 with
      | cons _ m => exact .inr (mem_chs.mpr ⟨m, m2⟩)
      | cons_cons _ m => exact .inl ⟨_, mem_chs.mpr ⟨m, by simpa using m2⟩, rfl⟩
/-! ### step by step -/
def gB (hs : List Int) : List Int → (Int → Int) → List Int
  | [], _ => []
  | o :: r, n => match hs.find? (fun h => decide (0 < n h ∧ KK hs r (up1 n h (-1)) + b01 (o = h) = KK hs (o :: r) n)) with
    | some h => h :: gB hs r (up1 n h (-1))
    | none => []
def gA (hs : List Int) (sh ov : Int) : List Int → (Int → Int) → Int → List Int
  | [], _, _ => []
  | o :: r, u, b => match hs.find? (fun h => match mkept sh r (up1 u h 1) hs ov with
      | some v => decide (b01 (o = h) + v = b)
      | none => false) with
    | some h => h :: gA hs sh ov r (up1 u h 1) (b - b01 (o = h))
    | none => []
theorem ltL_irr : ∀ xs : List Int, ltL xs xs = false
  | [] => rfl
  | x :: xs => by simp [ltL, ltL_irr xs]
theorem ltL_asym : ∀ {xs ys : List Int}, ltL xs ys = true → ltL ys xs = false
  | [], [], h => by cases h
  | [], _ :: _, _ => rfl
  | _ :: _, [], h => by cases h
  | x :: xs, y :: ys, h => by
    simp only [ltL, Bool.or_eq_true, decide_eq_true_eq, Bool.and_eq_true] at h
    simp only [ltL, Bool.or_eq_false_iff, decide_eq_false_iff_not, Bool.and_eq_false_imp, decide_eq_true_eq]
    rcases h with h | ⟨e, h⟩
    · exact ⟨by omega, fun e => by omega⟩
    · exact ⟨by omega, fun _ => ltL_asym h⟩
section
variable {sh : Int} {ov : Nat} {hs : List Int}
theorem kk_nb {h o : Int} {r : List Int} {n : Int → Int} (hn : 0 < n h) : ∀ {hs : List Int}, hs.Nodup → h ∈ hs →
    KK hs r (up1 n h (-1)) + b01 (o = h) ≤ KK hs (o :: r) n ∧ (o = h ∨ (b01 (o = h) = 0 ∧ ct r h < n h ∧ (n o ≤ 0 ∨ o ∉ hs) ∧ (∀ k ∈ hs, 0 ≤ n k)) → KK hs r (up1 n h (-1)) + b01 (o = h) = KK hs (o :: r) n) := by
  intro hs
  have rest_eq : ∀ {t : List Int}, h ∉ t → KK t r (up1 n h (-1)) = KK t r n := fun {t} nh => kk_congr fun k m => by
    unfold up1; rw [if_neg fun e : k = h => nh (e ▸ m)]
  have mono : ∀ t : List Int, KK t r n ≤ KK t (o :: r) n := fun t => by
    induction t with
    | nil => simp [KK]
    | cons k t ih =>
      rw [kk_cons, kk_cons, ct_cons]
      have := b01_b (p := o = k)
      omega
  have same : ∀ t : List Int, (∀ k ∈ t, o ≠ k ∨ n k ≤ 0 ∧ 0 ≤ n k) → KK t r n = KK t (o :: r) n := fun t => by
    induction t with
    | nil => simp [KK]
    | cons k t ih =>
      intro q
      rw [kk_cons, kk_cons, ct_cons, ih fun k m => q k (List.mem_cons_of_mem _ m)]
      have c0 := ct_nn (xs := r) (h := k)
      rcases q k List.mem_cons_self with e | e
      · rw [b01_f e]; omega
      · have := b01_b (p := o = k); omega
  induction hs with
  | nil => intro _ m; simp at m
  | cons k t ih =>
    intro nd m
    obtain ⟨nk, nt⟩ := List.nodup_cons.mp nd
    rw [kk_cons, kk_cons, ct_cons]
    by_cases e : k = h
    · subst e
      have eu : up1 n k (-1) k = n k - 1 := by unfold up1; rw [if_pos rfl]; omega
      rw [rest_eq nk, eu]
      have := mono t
      have c0 := ct_nn (xs := r) (h := k)
      have bb := b01_b (p := o = k)
      refine ⟨by omega, fun q => ?_⟩
      rcases q with q | ⟨q1, q2, q3, q4⟩
      · subst q
        rw [b01_t rfl, ← same t fun j m => .inl fun e => nk (e ▸ m)]; omega
      · rw [q1]
        have ok : ¬ o = k := fun z => by rw [b01_t z] at q1; omega
        rw [← same t fun j m => by
          by_cases z : o = j
          · refine .inr ⟨?_, q4 j (List.mem_cons_of_mem _ m)⟩
            rcases q3 with q3 | q3
            · rw [← z]; exact q3
            · exact absurd (z ▸ List.mem_cons_of_mem _ m) q3
          · exact .inl z]
        omega
    · have m' : h ∈ t := (List.mem_cons.mp m).resolve_left fun z => e z.symm
      have eu : up1 n h (-1) k = n k := by unfold up1; rw [if_neg e]
      rw [eu]
      obtain ⟨i1, i2⟩ := ih nt m'
      have bb := b01_b (p := o = k)
      have c0 := ct_nn (xs := r) (h := k)
      refine ⟨by omega, fun q => ?_⟩
      have q' := i2 (q.imp id fun ⟨q1, q2, q3, q4⟩ => ⟨q1, q2, q3.imp id fun z => fun y => z (List.mem_cons_of_mem _ y), fun k m => q4 k (List.mem_cons_of_mem _ m)⟩)
      by_cases z : o = k
      · subst z
        rcases q with q | ⟨q1, q2, q3, q4⟩
        · exact absurd q e
        · have := q4 o List.mem_cons_self
          have : n o ≤ 0 := q3.resolve_right fun y => y List.mem_cons_self
          rw [b01_t rfl]; omega
      · rw [b01_f z]; omega
theorem sum_tg : ∀ {hs M : List Int}, hs.Nodup → M.Sublist hs → (hs.map (tg sh M)).sum = sh * hs.length + M.length
  | [], M, _, hM => by
    have e := List.sublist_nil.mp hM
    subst e; simp
  | h :: t, M, nd, hM => by
    obtain ⟨nh, nt⟩ := List.nodup_cons.mp nd
    cases hM with
    | cons _ hM =>
      have hh : h ∉ M := fun m => nh (hM.subset m)
      rw [List.map_cons, List.sum_cons, sum_tg nt hM, tg_out hh, List.length_cons]
      have : sh * ((t.length + 1 : Nat) : Int) = sh * t.length + sh := by rw [Int.natCast_add, Int.mul_add]; simp
      omega
    | cons_cons _ hM =>
      rename_i M'
      rw [List.map_cons, List.sum_cons, tg_own, List.map_congr_left (g := tg sh M') (fun k m => tg_in (fun e : k = h => nh (by rw [← e]; exact m))), sum_tg nt hM, List.length_cons, List.length_cons]
      have : sh * ((t.length + 1 : Nat) : Int) = sh * t.length + sh := by rw [Int.natCast_add, Int.mul_add]; simp
      omega
theorem sum_ct_le : ∀ {hs r : List Int}, hs.Nodup → (hs.map (ct r)).sum ≤ r.length := by
  intro hs r nd
  induction r with
  | nil =>
    have : hs.map (ct []) = hs.map fun _ => 0 := List.map_congr_left fun k _ => by simp [ct]
    rw [this]
    have : ∀ l : List Int, (l.map fun _ => (0 : Int)).sum = 0 := fun l => by induction l with
      | nil => rfl
      | cons a l ih => rw [List.map_cons, List.sum_cons, ih]; rfl
    rw [this]; simp
  | cons o r ih =>
    have key : ∀ {l : List Int}, l.Nodup → (l.map (ct (o :: r))).sum ≤ (l.map (ct r)).sum + 1 ∧ (o ∉ l → (l.map (ct (o :: r))).sum = (l.map (ct r)).sum) := fun {l} => by
      induction l with
      | nil => simp
      | cons k t ih2 =>
        intro nd
        obtain ⟨nk, nt⟩ := List.nodup_cons.mp nd
        obtain ⟨j1, j2⟩ := ih2 nt
        simp only [List.map_cons, List.sum_cons, ct_cons]
        by_cases e : o = k
        · subst e
          have := j2 nk
          rw [b01_t rfl]
          exact ⟨by omega, fun z => absurd List.mem_cons_self z⟩
        · rw [b01_f e]
          refine ⟨by omega, fun z => ?_⟩
          have := j2 fun y => z (List.mem_cons_of_mem _ y)
          omega
    have := (key nd).1
    rw [List.length_cons]; omega
/-- somebody may always be next -/
theorem pick_ex {o : Int} {r : List Int} {n : Int → Int} (nd : hs.Nodup) (hn : ∀ k ∈ hs, 0 ≤ n k) (hsum : (hs.map n).sum = r.length + 1) : ∃ h ∈ hs, 0 < n h ∧ KK hs r (up1 n h (-1)) + b01 (o = h) = KK hs (o :: r) n := by
  by_cases q : o ∈ hs ∧ 0 < n o
  · exact ⟨o, q.1, q.2, (kk_nb q.2 nd q.1).2 (.inl rfl)⟩
  · have : ∃ h ∈ hs, ct r h < n h := by
      by_cases z : ∃ h ∈ hs, ct r h < n h
      · exact z
      · exfalso
        have le : ∀ l : List Int, (∀ k ∈ l, n k ≤ ct r k) → (l.map n).sum ≤ (l.map (ct r)).sum := fun l => by
          induction l with
          | nil => simp
          | cons k t ih =>
            intro y
            have := ih fun k m => y k (List.mem_cons_of_mem _ m)
            have := y k List.mem_cons_self
            simp only [List.map_cons, List.sum_cons]; omega
        have h1 := le hs fun k m => by
          by_cases y : ct r k < n k
          · exact absurd ⟨k, m, y⟩ z
          · omega
        have h2 := sum_ct_le (r := r) nd
        omega
    obtain ⟨h, m, g⟩ := this
    have g0 : 0 < n h := by have := ct_nn (xs := r) (h := h); omega
    have hne : ¬ o = h := fun e => q (by rw [e]; exact ⟨m, g0⟩)
    refine ⟨h, m, g0, (kk_nb g0 nd m).2 (.inr ⟨b01_f hne, g, ?_, hn⟩)⟩
    by_cases y : o ∈ hs
    · exact .inl (by have : ¬ 0 < n o := fun z => q ⟨y, z⟩; omega)
    · exact .inr y
theorem up_tg {M : List Int} {u : Int → Int} {h : Int} : up1 (fun k => tg sh M k - u k) h (-1) = fun k => tg sh M k - up1 u h 1 k := by
  funext k
  simp only [up1]
  split <;> omega
def val (sh : Int) (hs M : List Int) (u : Int → Int) : Prop := ∀ h ∈ hs, u h ≤ tg sh M h
theorem mk_some {r : List Int} {u : Int → Int} {v : Int} (h : mkept sh r u hs ov = some v) : (∀ h ∈ hs, ¬ (sh - u h < -1)) ∧ Fo sh u hs ≤ ov ∧ v = Kp sh r u hs + min (Gn sh r u hs) (ov - Fo sh u hs) := by
  unfold mkept at h
  split at h
  · cases h
  · rename_i g
    split at h
    · cases h
    · rename_i g2
      cases h
      exact ⟨fun k m q => g ⟨k, m, q⟩, by omega, rfl⟩
theorem mk_ub {r M : List Int} {u : Int → Int} (nd : hs.Nodup) (hM : M ∈ chs hs ov) (hv : val sh hs M u) : ∃ v, mkept sh r u hs ov = some v ∧ KK hs r (fun h => tg sh M h - u h) ≤ v := by
  obtain ⟨m1, m2⟩ := mem_chs.mp hM
  obtain ⟨i1, i2, i3⟩ := mk_le (rest := r) nd m1 hv
  rw [m2] at i1 i2
  refine ⟨_, ?_, i1⟩
  unfold mkept
  rw [if_neg fun ⟨k, m, q⟩ => i3 k m q, if_neg (by omega)]
theorem mk_wit {r : List Int} {u : Int → Int} {v : Int} (nd : hs.Nodup) (ho : ov ≤ hs.length) (h : mkept sh r u hs ov = some v) : ∃ M ∈ chs hs ov, val sh hs M u ∧ KK hs r (fun h => tg sh M h - u h) = v := by
  obtain ⟨h1, h2, h3⟩ := mk_some h
  obtain ⟨M, m1, m2, m3, m4⟩ := mk_ex (rest := r) nd h1 h2 ho
  exact ⟨M, mem_chs.mpr ⟨m1, m2⟩, m3, by rw [h3]; exact m4⟩
theorem val_up {M : List Int} {u : Int → Int} {h : Int} (hv : val sh hs M u) (g : 0 < tg sh M h - u h) : val sh hs M (up1 u h 1) := fun k m => by
  have := hv k m
  unfold up1
  split
  · rename_i e; subst e; omega
  · exact this
theorem val_dn {M : List Int} {u : Int → Int} {h : Int} (m : h ∈ hs) (hv : val sh hs M (up1 u h 1)) : val sh hs M u ∧ 0 < tg sh M h - u h := by
  refine ⟨fun k m => ?_, ?_⟩
  · have := hv k m
    unfold up1 at this
    split at this <;> omega
  · have := hv h m
    unfold up1 at this
    rw [if_pos rfl] at this
    omega
theorem sum_up : ∀ {hs : List Int} {u : Int → Int} {h : Int}, hs.Nodup → (h ∉ hs → (hs.map (up1 u h 1)).sum = (hs.map u).sum) ∧ (h ∈ hs → (hs.map (up1 u h 1)).sum = (hs.map u).sum + 1)
  | [], u, h, _ => by simp
  | k :: t, u, h, nd => by
    obtain ⟨nk, nt⟩ := List.nodup_cons.mp nd
    obtain ⟨i1, i2⟩ := sum_up (u := u) (h := h) nt
    simp only [List.map_cons, List.sum_cons]
    by_cases e : k = h
    · subst e
      have := i1 nk
      refine ⟨fun z => absurd List.mem_cons_self z, fun _ => ?_⟩
      have : up1 u k 1 k = u k + 1 := by unfold up1; rw [if_pos rfl]
      omega
    · have eu : up1 u h 1 k = u k := by unfold up1; rw [if_neg e]
      rw [eu]
      refine ⟨fun z => ?_, fun z => ?_⟩
      · rw [i1 fun y => z (List.mem_cons_of_mem _ y)]
      · rw [i2 ((List.mem_cons.mp z).resolve_left fun y => e y.symm)]; omega
/-- the first that fits -/
theorem find_first {p : Int → Bool} : ∀ {hs : List Int} {a : Int}, hs.Pairwise (· < ·) → hs.find? p = some a → a ∈ hs ∧ p a = true ∧ ∀ b ∈ hs, p b = true → a ≤ b
  | h :: t, a, pw, e => by
    obtain ⟨p1, p2⟩ := List.pairwise_cons.mp pw
    rw [List.find?_cons] at e
    cases q : p h with
    | true =>
      rw [q] at e
      cases e
      refine ⟨List.mem_cons_self, q, fun b m _ => ?_⟩
      rcases List.mem_cons.mp m with e | m
      · omega
      · exact Int.le_of_lt (p1 b m)
    | false =>
      rw [q] at e
      obtain ⟨i1, i2, i3⟩ := find_first p2 e
      refine ⟨List.mem_cons_of_mem _ i1, i2, fun b m pb => ?_⟩
      rcases List.mem_cons.mp m with e | m
      · rw [e, q] at pb; cases pb
      · exact i3 b m pb
theorem find_ex {p : Int → Bool} {b : Int} (m : b ∈ hs) (q : p b = true) : ∃ a, hs.find? p = some a := by
  cases e : hs.find? p with
  | some a => exact ⟨a, rfl⟩
  | none => exact absurd q (List.find?_eq_none.mp e b m)
/-- the heart: the one walk is the first of all the others -/
theorem heart (pw : hs.Pairwise (· < ·)) (ho : ov ≤ hs.length) : ∀ {r : List Int} {u : Int → Int} {v : Int}, mkept sh r u hs ov = some v → (hs.map u).sum + r.length = sh * hs.length + ov →
    (∀ M ∈ chs hs ov, val sh hs M u → KK hs r (fun h => tg sh M h - u h) = v → gB hs r (fun h => tg sh M h - u h) = gA hs sh ov r u v ∨ ltL (gA hs sh ov r u v) (gB hs r (fun h => tg sh M h - u h)) = true) ∧
    (∃ M ∈ chs hs ov, val sh hs M u ∧ KK hs r (fun h => tg sh M h - u h) = v ∧ gB hs r (fun h => tg sh M h - u h) = gA hs sh ov r u v)
  | [], u, v, hv, hsum => by
    have nd : hs.Nodup := pw.imp fun h => by omega
    obtain ⟨M, m1, m2, m3⟩ := mk_wit nd ho hv
    exact ⟨fun M _ _ _ => .inl rfl, M, m1, m2, m3, rfl⟩
  | o :: r, u, v, hv, hsum => by
    have nd : hs.Nodup := pw.imp fun h => by omega
    have hlen : ((o :: r).length : Int) = r.length + 1 := by simp
    rw [hlen] at hsum
    -- what the one walk may take, each of the others may, and back
    have toA : ∀ {h : Int} {M : List Int}, h ∈ hs → M ∈ chs hs ov → val sh hs M u → KK hs (o :: r) (fun k => tg sh M k - u k) = v → 0 < tg sh M h - u h → KK hs r (up1 (fun k => tg sh M k - u k) h (-1)) + b01 (o = h) = KK hs (o :: r) (fun k => tg sh M k - u k) →
        mkept sh r (up1 u h 1) hs ov = some (v - b01 (o = h)) ∧ val sh hs M (up1 u h 1) ∧ KK hs r (fun k => tg sh M k - up1 u h 1 k) = v - b01 (o = h) := fun {h M} mh hM hval hK hg hB => by
      rw [up_tg] at hB
      have hval' := val_up hval hg
      obtain ⟨w, w1, w2⟩ := mk_ub (r := r) nd hM hval'
      obtain ⟨M', m1, m2, m3⟩ := mk_wit nd ho w1
      obtain ⟨d1, d2⟩ := val_dn mh m2
      have k1 := (kk_nb (r := r) (o := o) (n := fun k => tg sh M' k - u k) d2 nd mh).1
      rw [up_tg, m3] at k1
      obtain ⟨w', w3, w4⟩ := mk_ub (r := o :: r) nd m1 d1
      rw [hv] at w3
      cases w3
      have ew : w = v - b01 (o = h) := by omega
      rw [← ew]
      exact ⟨w1, hval', by omega⟩
    have toB : ∀ {h : Int} {M : List Int} {w : Int}, h ∈ hs → mkept sh r (up1 u h 1) hs ov = some w → b01 (o = h) + w = v → M ∈ chs hs ov → val sh hs M (up1 u h 1) → KK hs r (fun k => tg sh M k - up1 u h 1 k) = w →
        val sh hs M u ∧ KK hs (o :: r) (fun k => tg sh M k - u k) = v ∧ 0 < tg sh M h - u h ∧ KK hs r (up1 (fun k => tg sh M k - u k) h (-1)) + b01 (o = h) = KK hs (o :: r) (fun k => tg sh M k - u k) := fun {h M w} mh hw ew hM hval hK => by
      obtain ⟨d1, d2⟩ := val_dn mh hval
      have k1 := (kk_nb (r := r) (o := o) (n := fun k => tg sh M k - u k) d2 nd mh).1
      rw [up_tg, hK] at k1
      obtain ⟨w', w3, w4⟩ := mk_ub (r := o :: r) nd hM d1
      rw [hv] at w3
      cases w3
      rw [up_tg, hK]
      exact ⟨d1, by omega, d2, by omega⟩
    have pB : ∀ {M : List Int}, M ∈ chs hs ov → val sh hs M u → ∃ h, hs.find? (fun h => decide (0 < tg sh M h - u h ∧ KK hs r (up1 (fun k => tg sh M k - u k) h (-1)) + b01 (o = h) = KK hs (o :: r) (fun k => tg sh M k - u k))) = some h := fun {M} hM hval => by
      obtain ⟨m1, m2⟩ := mem_chs.mp hM
      have hn : ∀ k ∈ hs, 0 ≤ tg sh M k - u k := fun k m => by have := hval k m; omega
      have es : (hs.map fun k => tg sh M k - u k).sum = r.length + 1 := by
        have s1 := sum_tg (sh := sh) nd m1
        have s2 : ∀ l : List Int, (l.map fun k => tg sh M k - u k).sum = (l.map (tg sh M)).sum - (l.map u).sum := fun l => by
          induction l with
          | nil => rfl
          | cons a l ih => simp only [List.map_cons, List.sum_cons, ih]; omega
        rw [s2, s1, m2]; omega
      obtain ⟨h, mh, g1, g2⟩ := pick_ex (o := o) nd hn es
      exact find_ex mh (decide_eq_true ⟨g1, g2⟩)
    let pa : Int → Bool := fun h => match mkept sh r (up1 u h 1) hs ov with
      | some v' => decide (b01 (o = h) + v' = v)
      | none => false
    have pa_i : ∀ {h w : Int}, mkept sh r (up1 u h 1) hs ov = some w → b01 (o = h) + w = v → pa h = true := fun {h w} e1 e2 => by
      show (match mkept sh r (up1 u h 1) hs ov with
        | some v' => decide (b01 (o = h) + v' = v)
        | none => false) = true
      rw [e1]; exact decide_eq_true e2
    have pa_e : ∀ {h : Int}, pa h = true → ∃ w, mkept sh r (up1 u h 1) hs ov = some w ∧ b01 (o = h) + w = v := fun {h} e => by
      have e : (match mkept sh r (up1 u h 1) hs ov with
        | some v' => decide (b01 (o = h) + v' = v)
        | none => false) = true := e
      split at e
      · rename_i w e1; exact ⟨w, e1, of_decide_eq_true e⟩
      · cases e
    obtain ⟨M0, a1, a2, a3⟩ := mk_wit nd ho hv
    obtain ⟨h0, e0⟩ := pB a1 a2
    obtain ⟨f1, f2, f3⟩ := find_first pw e0
    obtain ⟨g1, g2⟩ := of_decide_eq_true f2
    obtain ⟨t1, t2, t3⟩ := toA f1 a1 a2 a3 g1 g2
    obtain ⟨h, eh⟩ := find_ex (p := pa) f1 (pa_i t1 (by omega))
    obtain ⟨c1, c2, c3⟩ := find_first pw eh
    obtain ⟨w, w1, w2⟩ := pa_e c2
    have eA : gA hs sh ov (o :: r) u v = h :: gA hs sh ov r (up1 u h 1) (v - b01 (o = h)) := by
      show (match hs.find? pa with
        | some h => h :: gA hs sh ov r (up1 u h 1) (v - b01 (o = h))
        | none => []) = _
      rw [eh]
    have ew : v - b01 (o = h) = w := by omega
    rw [ew] at eA
    have eB : ∀ {M : List Int} {k : Int}, hs.find? (fun h => decide (0 < tg sh M h - u h ∧ KK hs r (up1 (fun k => tg sh M k - u k) h (-1)) + b01 (o = h) = KK hs (o :: r) (fun k => tg sh M k - u k))) = some k →
        gB hs (o :: r) (fun k => tg sh M k - u k) = k :: gB hs r (fun j => tg sh M j - up1 u k 1 j) := fun {M k} e => by
      rw [gB, e, ← up_tg]
    have hsum' : (hs.map (up1 u h 1)).sum + r.length = sh * hs.length + ov := by
      have := (sum_up (u := u) nd).2 c1
      omega
    obtain ⟨ih1, ih2⟩ := heart pw ho w1 hsum'
    rw [eA]
    refine ⟨fun M hM hval hK => ?_, ?_⟩
    · obtain ⟨k, ek⟩ := pB hM hval
      obtain ⟨k1, k2, k3⟩ := find_first pw ek
      obtain ⟨g1, g2⟩ := of_decide_eq_true k2
      obtain ⟨t1, t2, t3⟩ := toA k1 hM hval hK g1 g2
      have le := c3 k k1 (pa_i t1 (by omega))
      rw [eB ek]
      by_cases e : h = k
      · subst e
        rw [w1] at t1
        cases t1
        rcases ih1 M hM t2 t3 with i | i
        · exact .inl (by rw [i])
        · exact .inr (by simp [ltL, i])
      · exact .inr (by simp [ltL]; omega)
    · obtain ⟨M, m1, m2, m3, m4⟩ := ih2
      obtain ⟨b1, b2, b3, b4⟩ := toB c1 w1 w2 m1 m2 m3
      obtain ⟨k, ek⟩ := pB m1 b1
      obtain ⟨k1, k2, k3⟩ := find_first pw ek
      have le1 := k3 h c1 (decide_eq_true ⟨b3, b4⟩)
      obtain ⟨g1, g2⟩ := of_decide_eq_true k2
      obtain ⟨t1, _, _⟩ := toA k1 m1 b1 b2 g1 g2
      have le2 := c3 k k1 (pa_i t1 (by omega))
      have e : h = k := by omega
      subst e
      exact ⟨M, m1, b1, b2, by rw [eB ek, m4]⟩
end
theorem least_fold {g : List Int} : ∀ {l : List (List Int)} {a : List Int}, (a = g ∨ (ltL g a = true ∧ g ∈ l)) → (∀ x ∈ l, x = g ∨ ltL g x = true) → l.foldl (fun a y => if ltL y a then y else a) a = g
  | [], a, h, _ => by
    rcases h with h | ⟨_, h⟩
    · exact h
    · simp at h
  | y :: l, a, h, hx => by
    rw [List.foldl_cons]
    refine least_fold ?_ fun x m => hx x (List.mem_cons_of_mem _ m)
    rcases h with h | ⟨h1, h2⟩
    · subst h
      refine .inl ?_
      rcases hx y List.mem_cons_self with e | e
      · rw [e, ltL_irr]; simp
      · rw [ltL_asym e]; simp
    · rcases hx y List.mem_cons_self with e | e
      · subst e
        rw [h1]; exact .inl rfl
      · refine .inr ⟨?_, ?_⟩
        · split
          · exact e
          · exact h1
        · rcases List.mem_cons.mp h2 with z | z
          · subst z; rw [ltL_irr] at e; cases e
          · exact z
theorem leastL_eq {g : List Int} {l : List (List Int)} (m : g ∈ l) (h : ∀ x ∈ l, x = g ∨ ltL g x = true) : leastL l = some g := by
  cases l with
  | nil => simp at m
  | cons x r =>
    show some (r.foldl (fun a y => if ltL y a then y else a) x) = some g
    congr 1
    refine least_fold ?_ fun y m => h y (List.mem_cons_of_mem _ m)
    rcases h x List.mem_cons_self with e | e
    · exact .inl e
    · refine .inr ⟨e, (List.mem_cons.mp m).resolve_left fun z => ?_⟩
      subst z; rw [ltL_irr] at e; cases e
end D
end

section
/-! More rules of the plain layer: sums, counts, choices; comprehensions that change the store. -/
namespace D
open PySem L2
section
variable {c : Call} {σ : Env} {Q : PQ} {Z : PZ} {S : Sto} {n : Nat} {i j : Int}
def kSum (Q : PQ) (S : Sto) (o : Option Nd) : Prop := optP (nodL o) fun xs => optP (intsOf xs) fun ns => Q (.int ns.sum) S
def kMin2 (Q : PQ) (S : Sto) (xs : List W) (o : Option (List Int)) : Prop := match o with
  | some ns => optP (least ns) fun m => Q (.int m) S
  | none => optP (tupsOf xs) fun ts => optP (leastL ts) fun m => Q (.tup (m.map .int)) S
def kMin (Q : PQ) (S : Sto) (o : Option Nd) : Prop := optP (nodL o) fun xs => kMin2 Q S xs (intsOf xs)
def kMax (Q : PQ) (S : Sto) (o : Option Nd) : Prop := optP (nodL o) fun xs => optP (intsOf xs) fun ns => optP (most ns) fun m => Q (.int m) S
def kDictR (Q : PQ) (S : Sto) (o : Option Nd) : Prop := match o with
  | some (.lst xs) => optP (pairsOf xs) fun kvs => Q (.ref S.next) (S.new (.dct false (mergeW [] kvs)))
  | some (.dct false kvs) => Q (.ref S.next) (S.new (.dct false kvs))
  | _ => False
theorem intsOf_ints : ∀ ns : List Int, intsOf (ns.map .int) = some ns
  | [] => rfl
  | n :: ns => by
    show (intsOf (ns.map .int)).map (n :: ·) = _
    rw [intsOf_ints ns]; rfl
theorem intsOf_map {α : Type} {l : List α} {f : α → Int} : intsOf (l.map fun a => W.int (f a)) = some (l.map f) := by
  have := intsOf_ints (l.map f)
  rw [List.map_map] at this
  exact this
theorem tupsOf_map : ∀ ts : List (List Int), tupsOf (ts.map fun t => .tup (t.map .int)) = some ts
  | [] => rfl
  | t :: ts => by
    show tupsOf (.tup (t.map .int) :: ts.map fun t => .tup (t.map .int)) = _
    rw [tupsOf, intsOf_ints, tupsOf_map ts]
theorem g_sum : (biW .sum [.ref n] S).wp Q Z = kSum Q S (S.get n) := by
  simp only [biW, kSum, lstOf_nod]
  rcases h : nodL (S.get n) with _ | xs
  · rfl
  · rcases g : intsOf xs with _ | ns <;> simp only [optP, g] <;> rfl
theorem k_SumI {ns : List Int} : kSum Q S (some (.lst (ns.map .int))) = Q (.int ns.sum) S := by
  show optP (intsOf (ns.map .int)) _ = _
  rw [intsOf_ints]; rfl
theorem k_SumM {α : Type} {l : List α} {f : α → Int} : kSum Q S (some (.lst (l.map fun a => W.int (f a)))) = Q (.int (l.map f).sum) S := by
  show optP (intsOf (l.map fun a => W.int (f a))) _ = _
  rw [intsOf_map]; rfl
theorem g_min : (biW .min1 [.ref n] S).wp Q Z = kMin Q S (S.get n) := by
  simp only [biW, kMin, kMin2, lstOf_nod]
  rcases h : nodL (S.get n) with _ | xs
  · rfl
  · rcases g : intsOf xs with _ | ns
    · rcases q : tupsOf xs with _ | ts
      · simp only [optP, g, q]; rfl
      · rcases e : leastL ts with _ | m <;> simp only [optP, g, q, e] <;> rfl
    · rcases e : least ns with _ | m <;> simp only [optP, g, e] <;> rfl
theorem k_MinT {t : List Int} {ts : List (List Int)} : kMin Q S (some (.lst ((t :: ts).map fun t => W.tup (t.map .int)))) = optP (leastL (t :: ts)) fun m => Q (.tup (m.map .int)) S := by
  show optP (tupsOf ((t :: ts).map fun t => W.tup (t.map .int))) _ = _
  rw [tupsOf_map]; rfl
theorem k_MinL {ts : List (List Int)} : kMin Q S (some (.lst (ts.map fun t => W.tup (t.map .int)))) = optP (leastL ts) fun m => Q (.tup (m.map .int)) S := by
  cases ts with
  | nil => rfl
  | cons t ts => exact k_MinT
theorem k_MinI {ns : List Int} : kMin Q S (some (.lst (ns.map .int))) = optP (least ns) fun m => Q (.int m) S := by
  show kMin2 Q S _ (intsOf (ns.map .int)) = _
  rw [intsOf_ints]; rfl
theorem g_max : (biW .max1 [.ref n] S).wp Q Z = kMax Q S (S.get n) := by
  simp only [biW, kMax, lstOf_nod]
  rcases h : nodL (S.get n) with _ | xs
  · rfl
  · rcases g : intsOf xs with _ | ns
    · simp only [optP, g]; rfl
    · rcases e : most ns with _ | m <;> simp only [optP, g, e] <;> rfl
theorem k_MaxI {ns : List Int} : kMax Q S (some (.lst (ns.map .int))) = optP (most ns) fun m => Q (.int m) S := by
  show optP (intsOf (ns.map .int)) _ = _
  rw [intsOf_ints]; rfl
theorem g_dictR : (biW .dict [.ref n] S).wp Q Z = kDictR Q S (S.get n) := by
  simp only [biW, kDictR]
  rcases h : S.get n with _ | (xs | xs | ⟨l, kvs⟩ | ⟨k, fs⟩)
  · rfl
  · rcases g : pairsOf xs with _ | kvs <;> simp only [optP, g] <;> rfl
  · rfl
  · cases l <;> rfl
  · rfl
theorem k_DictL {xs : List W} : kDictR Q S (some (.lst xs)) = optP (pairsOf xs) fun kvs => Q (.ref S.next) (S.new (.dct false (mergeW [] kvs))) := rfl
theorem k_DictD {kvs : List (Key × W)} : kDictR Q S (some (.dct false kvs)) = Q (.ref S.next) (S.new (.dct false kvs)) := rfl
theorem f_lrng {k : Int} (h : -100000 ≤ k ∧ k ≤ 100000) : (biW .lrng1 [.int k] S).wp Q Z = Q (.ref S.next) (S.new (.lst (rangeW 0 k))) := by
  simp only [biW, if_pos h]; rfl
theorem f_minI : (biW .min2 [.int i, .int j] S).wp Q Z = Q (.int (min i j)) S := by
  rw [f_min2]; congr 2; omega
theorem f_maxI : (biW .max2 [.int i, .int j] S).wp Q Z = Q (.int (max i j)) S := by
  rw [f_max2]; congr 2; omega
theorem f_intD {p : Prop} [Decidable p] : (biW .int [.bl (decide p)] S).wp Q Z = Q (.int (b01 p)) S := by
  rw [f_intB]; unfold b01; congr 2; by_cases h : p <;> simp [h]
theorem kd_tup' {xs : List W} : kd (.tup xs) S = some .tup := rfl
theorem g_cntT {xs : List Int} {k : Int} : (bmW .count (.tup (xs.map .int)) [.int k] S).wp Q Z = Q (.int (ct xs k)) S := by
  simp only [bmW, intsOf_ints]; rfl
theorem allSc_ints : ∀ M : List Int, allSc (M.map .int) = true
  | [] => rfl
  | _ :: M => allSc_ints M
theorem eqV_int {m h : Int} : eqV (V.int m) (V.int h) = decide (m = h) := by
  show (m == h) = _
  by_cases e : m = h <;> simp [e]
theorem inV_ints {h : Int} : ∀ M : List Int, inV (.int h) ((M.map W.int).map W.v) = decide (h ∈ M)
  | [] => rfl
  | m :: M => by
    have ih := inV_ints (h := h) M
    have e : inV (.int h) (((m :: M).map W.int).map W.v) = (eqV (V.int m) (V.int h) || inV (.int h) ((M.map W.int).map W.v)) := rfl
    rw [e, ih, eqV_int, Bool.eq_iff_iff]
    simp only [Bool.or_eq_true, decide_eq_true_eq, List.mem_cons]
    constructor
    · rintro (z | z)
      · exact .inl z.symm
      · exact .inr z
    · rintro (z | z)
      · exact .inl z.symm
      · exact .inr z
def inD (S : Sto) (x : W) (o : Option Nd) : Option Bool := match o with
    | some (.lst ys) => if x.sc && allSc ys then some (inV x.v (ys.map W.v)) else
      (match dat S 6 x, dats S 6 ys with
      | some d, some ds => if SeqAt.shaped d && SeqAt.shaped (.list ds) then some (ds.any fun z => PyData.eqv z d) else none
      | _, _ => none)
    | some (.dct _ kvs) => (match x.key with
      | some k => some (valW kvs k).isSome
      | none => none)
    | _ => none
theorem in_refI {h : Int} {n : Nat} : inW S (.int h) (.ref n) = inD S (.int h) (S.get n) := by
  rcases e : S.get n with _ | (_ | _ | _ | _) <;> simp only [inW, inD, e] <;> rfl
theorem inD_l {h : Int} {M : List Int} : inD S (.int h) (some (.lst (M.map .int))) = some (decide (h ∈ M)) := by
  have a := allSc_ints M
  simp only [inD]
  rw [if_pos (by rw [a]; rfl)]
  exact congrArg some (inV_ints M)
theorem inD_d {h : Int} {l : Bool} {kvs : List (Key × W)} : inD S (.int h) (some (.dct l kvs)) = some (valW kvs (.inl h)).isSome := rfl
theorem eq_tI {xs ys : List Int} : eqW S (.tup (xs.map .int)) (.tup (ys.map .int)) = some (decide (xs = ys)) := by
  have : Decidable (xs.map W.int = ys.map W.int) := by rw [int_map_inj]; exact inferInstance
  rw [eq_tup (ivs_ints xs) (ivs_ints ys)]
  congr 1
  rw [Bool.eq_iff_iff, decide_eq_true_eq, decide_eq_true_eq, int_map_inj]
theorem int_beq {a b : Int} : (W.int a = W.int b) = (a = b) := by simp
theorem len_filter {xs : List Int} {z : Int} : ((xs.filter fun a => decide (a = z)).length : Int) = ct xs z := by
  unfold ct
  rw [List.count_eq_length_filter]
  have e : (xs.filter fun a => decide (a = z)) = xs.filter (· == z) := List.filter_congr fun x _ => by by_cases e : x = z <;> simp [e]
  rw [e]
theorem sum_take {hs : List Int} {i : Nat} {z : Int} {f : Int → Int} (h : hs[i]? = some z) : ((hs.take (i + 1)).map f).sum = ((hs.take i).map f).sum + f z := by
  rw [List.take_succ, h]; simp
end
section
variable {Q : PQ} {Z : PZ} {S : Sto} {n : Nat}
def kExt2 (Q : PQ) (S : Sto) (n : Nat) (xs : List W) (o : Option Nd) : Prop := lstP o fun ys => xs.length + ys.length ≤ lim ∧ Q .non (S.put n (.lst (xs ++ ys)))
def kExt (Q : PQ) (S : Sto) (n : Nat) (m : Option Nd) (o : Option Nd) : Prop := lstP o fun xs => kExt2 Q S n xs m
theorem g_ext {m : Nat} {xs ys : List W} (e : S.get n = some (.lst xs)) (e2 : S.get m = some (.lst ys)) : (bmW .extend (.ref n) [.ref m] S).wp Q Z = (xs.length + ys.length ≤ lim ∧ Q .non (S.put n (.lst (xs ++ ys)))) := by
  simp only [bmW, e, e2]
  by_cases h : xs.length + ys.length ≤ lim <;> simp [h, R.wp]
end
def kSort (Q : PQ) (S : Sto) (o : Option Nd) : Prop := match o with
  | some (.lst xs) => optP (intsOf xs) fun ns => Q (.ref S.next) (S.new (.lst ((sortInts ns).map .int)))
  | some (.dct false kvs) => if kvs.length < 64 then (optP (intsOf (kvs.map fun kv => keyW kv.1)) fun ns => Q (.ref S.next) (S.new (.lst ((sortInts ns).map .int)))) else False
  | _ => False
theorem g_sorted {Q : PQ} {Z : PZ} {S : Sto} {n : Nat} : (biW .sorted [.ref n] S).wp Q Z = kSort Q S (S.get n) := by
  simp only [biW, keysOf, kSort]
  rcases h : S.get n with _ | (xs | xs | ⟨l, kvs⟩ | ⟨k, fs⟩)
  · rfl
  · rcases g : intsOf xs with _ | ns <;> simp only [optP, g] <;> rfl
  · rfl
  · cases l with
    | true => rfl
    | false =>
      by_cases q : kvs.length < 64
      · simp only [if_pos q]
        rcases g : intsOf (kvs.map fun kv => keyW kv.1) with _ | ns <;> simp only [optP, g] <;> rfl
      · simp only [if_neg q]; rfl
  · rfl
theorem k_SortL {Q : PQ} {S : Sto} {ns : List Int} : kSort Q S (some (.lst (ns.map .int))) = Q (.ref S.next) (S.new (.lst ((sortInts ns).map .int))) := by
  simp only [kSort, intsOf_ints]; rfl
/-! ### cuts of numbers -/
theorem cut_mid {xs : List Int} {a t : Nat} (h : a + t + 1 ≤ xs.length) : cutW (xs.map .int) (some (a : Int)) (some ((a : Int) + 1 + (t : Int))) = ((xs.drop a).take (t + 1)).map .int := by
  have e : ((a : Int) + 1 + (t : Int)) = ((a + 1 + t : Nat) : Int) := by omega
  unfold cutW
  rw [e, HT.sIx_nat, HT.sIx_nat, List.length_map, Nat.min_eq_left (by omega), Nat.min_eq_left (by omega), show a + 1 + t - a = t + 1 by omega, List.map_take, List.map_drop]
theorem map_erase {xs : List Int} {j : Nat} : (xs.map W.int).eraseIdx j = (xs.eraseIdx j).map .int := by
  induction xs generalizing j with
  | nil => rfl
  | cons x xs ih => cases j with
    | zero => rfl
    | succ j => simp only [List.map_cons, List.eraseIdx_cons_succ, ih]

theorem cut_from {xs : List Int} {k : Nat} : cutW (xs.map .int) (some (k : Int)) none = (xs.drop k).map .int := by
  unfold cutW
  rw [HT.sIx_nat]
  have e : HT.sIx (xs.map W.int).length (xs.map W.int).length none = (xs.map W.int).length := rfl
  rw [e, List.length_map, List.map_drop]
  by_cases h : k ≤ xs.length
  · rw [Nat.min_eq_left h, List.take_of_length_le]
    rw [List.length_drop, List.length_map]; omega
  · rw [Nat.min_eq_right (by omega)]
    rw [List.drop_eq_nil_of_le (by simp), List.drop_eq_nil_of_le (by rw [List.length_map]; omega)]; simp
theorem cut_from1 {xs : List Int} {k : Nat} : cutW (xs.map .int) (some ((k : Int) + 1)) none = (xs.drop (k + 1)).map .int := cut_from (k := k + 1)
/-! ### dicts of numbers by their names -/
def kv (hs : List Int) (u : Int → Int) : List (Key × W) := hs.map fun h => (.inl h, .int (u h))
theorem kv_val {hs : List Int} {u : Int → Int} {h : Int} (m : h ∈ hs) : valW (kv hs u) (.inl h) = some (.int (u h)) := by
  induction hs with
  | nil => simp at m
  | cons k t ih =>
    show (if (Sum.inl k : Key) = .inl h then some (W.int (u k)) else valW (kv t u) (.inl h)) = _
    by_cases e : k = h
    · subst e; rw [if_pos rfl]
    · rw [if_neg fun z => e (by injection z)]
      exact ih ((List.mem_cons.mp m).resolve_left fun z => e z.symm)
theorem kv_out {hs : List Int} {u : Int → Int} {h : Int} (m : h ∉ hs) : valW (kv hs u) (.inl h) = none := by
  induction hs with
  | nil => rfl
  | cons k t ih =>
    show (if (Sum.inl k : Key) = .inl h then some (W.int (u k)) else valW (kv t u) (.inl h)) = _
    rw [if_neg fun z => m (by injection z with z; rw [z]; exact List.mem_cons_self)]
    exact ih fun z => m (List.mem_cons_of_mem _ z)
theorem kv_len {hs : List Int} {u : Int → Int} : (kv hs u).length = hs.length := by simp [kv]
theorem kv_congr {hs : List Int} {u v : Int → Int} (e : ∀ h ∈ hs, u h = v h) : kv hs u = kv hs v := List.map_congr_left fun h m => by rw [e h m]
theorem kv_put {hs : List Int} {u : Int → Int} {h x : Int} (m : h ∈ hs) : putW (kv hs u) (.inl h) (.int x) = kv hs (fun k => if k = h then x else u k) := by
  unfold putW
  have : ((kv hs u).any fun p => decide (p.1 = .inl h)) = true := by
    rw [List.any_eq_true]
    exact ⟨(.inl h, .int (u h)), List.mem_map.mpr ⟨h, m, rfl⟩, by simp⟩
  rw [if_pos this]
  unfold kv
  rw [List.map_map]
  refine List.map_congr_left fun k _ => ?_
  show (if (Sum.inl k : Key) = .inl h then ((Sum.inl k : Key), W.int x) else (Sum.inl k, W.int (u k))) = _
  by_cases e : k = h
  · subst e; simp
  · simp [e]
theorem kv_merge : ∀ {t hs : List Int} {u : Int → Int}, (hs ++ t).Nodup → mergeW (kv hs u) (kv t u) = kv (hs ++ t) u
  | [], hs, u, _ => by simp [mergeW, kv]
  | h :: t, hs, u, nd => by
    have nh : h ∉ hs := fun m => by
      have := List.nodup_append.mp nd
      exact this.2.2 h m h List.mem_cons_self rfl
    have e : putW (kv hs u) (.inl h) (.int (u h)) = kv (hs ++ [h]) u := by
      unfold putW
      have : ((kv hs u).any fun p => decide (p.1 = .inl h)) = false := by
        rw [List.any_eq_false]
        intro p m
        obtain ⟨k, mk, e⟩ := List.mem_map.mp m
        subst e
        simp only [decide_eq_true_eq]
        intro z; injection z with z; exact nh (z ▸ mk)
      rw [if_neg (by rw [this]; simp)]
      simp [kv]
    show mergeW (putW (kv hs u) (.inl h) (.int (u h))) (kv t u) = _
    rw [e, kv_merge (by simpa using nd)]
    simp
theorem kv_merge0 {hs : List Int} {u : Int → Int} (nd : hs.Nodup) : mergeW [] (kv hs u) = kv hs u := kv_merge (hs := []) (by simpa using nd)
theorem pairs_kv {hs : List Int} {u : Int → Int} : pairsOf (hs.map fun h => W.tup [.int h, .int (u h)]) = some (kv hs u) := by
  induction hs with
  | nil => rfl
  | cons h t ih =>
    show pairsOf (W.tup [.int h, .int (u h)] :: t.map fun h => W.tup [.int h, .int (u h)]) = _
    rw [pairsOf, ih]; rfl
theorem k_DictK {Q : PQ} {S : Sto} {hs : List Int} {u : Int → Int} (nd : hs.Nodup) : kDictR Q S (some (.lst (hs.map fun h => W.tup [.int h, .int (u h)]))) = Q (.ref S.next) (S.new (.dct false (kv hs u))) := by
  rw [k_DictL, pairs_kv]
  show Q _ (S.new (.dct false (mergeW [] (kv hs u)))) = _
  rw [kv_merge0 nd]
/-! ### comprehensions that change the store -/
section
variable {c : Call} {σ : Env} {Q : PQ} {Z : PZ} {xs : List Nat} {one : Bool} {elt : E} {S : Sto}
def kLcT (c : Call) (elt : E) (D : Nat) (acc : List W) (I : List W → Sto → Prop) (S : Sto) (o : Option Env) : Prop := optP o fun σ' => (eval c elt σ' S).wp (fun v S' => S'.get D = some (.lst acc) ∧ I (acc ++ [v]) (S'.put D (.lst (acc ++ [v])))) noZ
theorem h_LcT {σ' : Env} {D : Nat} {acc : List W} {I : List W → Sto → Prop} : kLcT c elt D acc I S (some σ') = (eval c elt σ' S).wp (fun v S' => S'.get D = some (.lst acc) ∧ I (acc ++ [v]) (S'.put D (.lst (acc ++ [v])))) noZ := rfl
theorem lcT_turn {D : Nat} {acc : List W} {I : List W → Sto → Prop} {x : W} {S : Sto} (hl : acc.length ≤ lim) (h : kLcT c elt D acc I S (takeT xs one x (wipeW σ xs))) :
    ∃ v S', lcTurn D σ xs one (testOf c .no) (fun σ S => eval c elt σ S) x () S = .ok () S' ∧ I (acc ++ [v]) S' ∧ S'.get D = some (.lst (acc ++ [v])) := by
  unfold lcTurn
  cases e : takeT xs one x (wipeW σ xs) with
  | none => rw [e] at h; exact False.elim h
  | some σ' =>
    rw [e] at h
    have h : (eval c elt σ' S).wp (fun v S' => S'.get D = some (.lst acc) ∧ I (acc ++ [v]) (S'.put D (.lst (acc ++ [v])))) noZ := h
    dsimp only [testOf]
    cases e2 : eval c elt σ' S with
    | no => rw [e2] at h; exact False.elim h
    | ex x S1 => rw [e2] at h; exact False.elim h
    | ok v S1 =>
      rw [e2] at h
      obtain ⟨h1, h2⟩ := h
      simp only [R.noex, R.bind, h1, if_pos hl]
      exact ⟨v, _, rfl, h2, by simp [Sto.put]⟩
theorem lcT_walk {D : Nat} (I : Nat → List W → Sto → Prop) {vs : List W} (hl : vs.length ≤ lim) (hs : ∀ i x acc S', vs[i]? = some x → acc.length = i → S'.get D = some (.lst acc) → I i acc S' → kLcT c elt D acc (I (i + 1)) S' (takeT xs one x (wipeW σ xs))) :
    ∀ (zs : List W) (i : Nat) (acc : List W) (S : Sto), vs.drop i = zs → acc.length = i → i ≤ vs.length → S.get D = some (.lst acc) → I i acc S → ∃ acc' S', walk (lcTurn D σ xs one (testOf c .no) fun σ S => eval c elt σ S) zs () S = .ok () S' ∧ acc'.length = vs.length ∧ I vs.length acc' S' ∧ S'.get D = some (.lst acc')
  | [], i, acc, S, e, el, hi, hD, h => by
    have : i = vs.length := by
      have := List.drop_eq_nil_iff.mp e
      omega
    subst this
    exact ⟨acc, S, rfl, el, h, hD⟩
  | z :: zs, i, acc, S, e, el, hi, hD, h => by
    have hz : vs[i]? = some z := by
      have := congrArg (fun l => l[0]?) e
      simpa [List.getElem?_drop] using this
    have hi' : i < vs.length := by
      rcases Nat.lt_or_ge i vs.length with q | q
      · exact q
      · rw [List.getElem?_eq_none q] at hz; cases hz
    obtain ⟨v, S1, e1, i1, d1⟩ := lcT_turn (by omega) (hs i z acc S hz el hD h)
    have e2 : vs.drop (i + 1) = zs := by
      have := congrArg List.tail e
      simpa [List.tail_drop] using this
    obtain ⟨acc', S', w1, w2, w3, w4⟩ := lcT_walk I hl hs zs (i + 1) (acc ++ [v]) S1 e2 (by simp [el]) hi' d1 i1
    refine ⟨acc', S', ?_, w2, w3, w4⟩
    show (lcTurn D σ xs one (testOf c .no) (fun σ S => eval c elt σ S) z () S).bind _ = _
    rw [e1]; exact w1
theorem lc_tup_inv {vs : List W} {S0 : Sto} (I : Nat → List W → Sto → Prop) (hl : vs.length ≤ lim) (h0 : I 0 [] (S.new (.lst []))) (hs : ∀ i x acc S', vs[i]? = some x → acc.length = i → S'.get S.next = some (.lst acc) → I i acc S' → kLcT c elt S.next acc (I (i + 1)) S' (takeT xs one x (wipeW σ xs)))
    (hd : ∀ acc S', acc.length = vs.length → S'.get S.next = some (.lst acc) → I vs.length acc S' → Q (.ref S.next) S') : kLc c σ Q Z xs one elt .no S0 (.tup vs) S := by
  refine ⟨rfl, ?_⟩
  show R.wp _ _ Z
  simp only [walkI]
  obtain ⟨acc, S', e, h1, h2, h3⟩ := lcT_walk I hl hs vs 0 [] (S.new (.lst [])) rfl rfl (Nat.zero_le _) new_get h0
  rw [e]
  exact hd acc S' h1 h3 h2
theorem lc_rng_inv {S0 : Sto} {n : Int} (I : Nat → List W → Sto → Prop) (hl : n ≤ 1000000) (h0 : I 0 [] (S.new (.lst []))) (hs : ∀ (i : Nat) acc S', (i : Int) < n → acc.length = i → S'.get S.next = some (.lst acc) → I i acc S' → kLcT c elt S.next acc (I (i + 1)) S' (takeT xs one (.int i) (wipeW σ xs)))
    (hd : ∀ acc S', acc.length = n.toNat → S'.get S.next = some (.lst acc) → I n.toNat acc S' → Q (.ref S.next) S') : kLc c σ Q Z xs one elt .no S0 (.tup (rangeW 0 n)) S := by
  have hlim : lim = 16000000 := rfl
  refine lc_tup_inv I (by rw [rangeW_len]; omega) h0 (fun i x acc S' hx hl hD h => ?_) (fun acc S' hl hD h => ?_)
  · rw [rangeW_get] at hx
    by_cases g : i < (n - 0).toNat
    · rw [if_pos g] at hx
      cases hx
      rw [show (0 : Int) + (i : Int) = i by omega]
      exact hs i acc S' (by omega) hl hD h
    · rw [if_neg g] at hx; cases hx
  · rw [rangeW_len, show n - 0 = n by omega] at hl h
    exact hd acc S' hl hD h
theorem lcT_walkL {D n : Nat} (I : Nat → List W → Sto → Prop) {vs : List W} (hl : vs.length ≤ lim) (hn : ∀ i acc S', I i acc S' → nodL (S'.get n) = some vs) (hs : ∀ i x acc S', vs[i]? = some x → acc.length = i → S'.get D = some (.lst acc) → I i acc S' → kLcT c elt D acc (I (i + 1)) S' (takeT xs one x (wipeW σ xs))) :
    ∀ (k i : Nat) (acc : List W) (S : Sto), i + k = vs.length → acc.length = i → S.get D = some (.lst acc) → I i acc S → ∃ acc' S', walkL n (lcTurn D σ xs one (testOf c .no) fun σ S => eval c elt σ S) k i () S = .ok () S' ∧ acc'.length = vs.length ∧ I vs.length acc' S' ∧ S'.get D = some (.lst acc')
  | 0, i, acc, S, e, el, hD, h => by
    have : i = vs.length := by omega
    subst this
    refine ⟨acc, S, ?_, el, h, hD⟩
    have g := hn _ _ _ h
    unfold walkL
    unfold nodL at g
    cases q : S.get n with
    | none => rw [q] at g; cases g
    | some d =>
      rw [q] at g
      cases d with
      | lst ys => cases g; simp
      | frz ys => cases g; simp
      | _ => cases g
  | k + 1, i, acc, S, e, el, hD, h => by
    have hi' : i < vs.length := by omega
    have hz : vs[i]? = some vs[i] := List.getElem?_eq_getElem hi'
    obtain ⟨v, S1, e1, i1, d1⟩ := lcT_turn (by omega) (hs i _ acc S hz el hD h)
    obtain ⟨acc', S', w1, w2, w3, w4⟩ := lcT_walkL I hl hn hs k (i + 1) (acc ++ [v]) S1 (by omega) (by simp [el]) d1 i1
    refine ⟨acc', S', ?_, w2, w3, w4⟩
    have g := hn _ _ _ h
    have one : ((lcTurn D σ xs one (testOf c .no) (fun σ S => eval c elt σ S) vs[i] () S).bind fun a S => walkL n (lcTurn D σ xs one (testOf c .no) fun σ S => eval c elt σ S) k (i + 1) a S) = .ok () S' := by rw [e1]; exact w1
    unfold walkL
    unfold nodL at g
    cases q : S.get n with
    | none => rw [q] at g; cases g
    | some d =>
      rw [q] at g
      cases d with
      | lst ys => cases g; simp only [hz]; exact one
      | frz ys => cases g; simp only [hz]; exact one
      | _ => cases g
theorem isDct_out {S0 : Sto} {n : Nat} (h : S0.next ≤ n) : isDct S0 (.ref n) = none := by
  simp only [isDct]
  split
  · rw [if_neg (by omega)]
  · rfl
theorem lc_list_inv' {n : Nat} {S0 : Sto} {vs : List W} (hd0 : isDct S0 (.ref n) = none) (I : Nat → List W → Sto → Prop) (hl : vs.length ≤ lim) (h0 : nodL (S.get n) = some vs) (hn : ∀ i acc S', I i acc S' → nodL (S'.get n) = some vs) (hI : I 0 [] (S.new (.lst []))) (hs : ∀ i x acc S', vs[i]? = some x → acc.length = i → S'.get S.next = some (.lst acc) → I i acc S' → kLcT c elt S.next acc (I (i + 1)) S' (takeT xs one x (wipeW σ xs)))
    (hd : ∀ acc S', acc.length = vs.length → S'.get S.next = some (.lst acc) → I vs.length acc S' → Q (.ref S.next) S') : kLc c σ Q Z xs one elt .no S0 (.ref n) S := by
  refine ⟨hd0, ?_⟩
  have ei : iterW (.ref n) S = some (.list n vs.length) := by
    unfold nodL at h0
    simp only [iterW]
    cases g : S.get n with
    | none => rw [g] at h0; cases h0
    | some d =>
      rw [g] at h0
      cases d with
      | lst ys => cases h0; rfl
      | frz ys => cases h0; rfl
      | _ => cases h0
  rw [ei]
  show R.wp _ _ Z
  simp only [walkI]
  obtain ⟨acc, S', e, h1, h2, h3⟩ := lcT_walkL I hl hn hs vs.length 0 [] (S.new (.lst [])) (by omega) rfl new_get hI
  rw [e]
  exact hd acc S' h1 h3 h2
theorem forL_list' {n : Nat} {S0 : Sto} {N : PN} {V : PQ} {X : PX} {s : D.S} {vs : List W} (hd0 : isDct S0 (.ref n) = none) (hg : nodL (S.get n) = some vs) (I : Nat → Env → Sto → Prop) (h0 : I 0 σ S) (hl : ∀ i σ S, i ≤ vs.length → I i σ S → nodL (S.get n) = some vs) (hs : ∀ i x σ S, vs[i]? = some x → I i σ S → kTurn c (I (i + 1)) V X s S (takeT xs one x σ)) (hd : ∀ σ S, I vs.length σ S → N σ S) :
    kForL c σ N V X xs one s S0 (.ref n) S := by
  refine ⟨hd0, ?_⟩
  rw [lstOf_nod, hg]
  exact loop_list I h0 (fun i σ S hi h => by rw [lstOf_nod]; exact hl i σ S hi h) (fun i x σ S hx h => by rw [y_turn]; exact hs i x σ S hx h) hd
theorem lc_list_inv {n : Nat} {vs : List W} (I : Nat → List W → Sto → Prop) (hl : vs.length ≤ lim) (h0 : nodL (S.get n) = some vs) (hn : ∀ i acc S', I i acc S' → nodL (S'.get n) = some vs) (hI : I 0 [] (S.new (.lst []))) (hs : ∀ i x acc S', vs[i]? = some x → acc.length = i → S'.get S.next = some (.lst acc) → I i acc S' → kLcT c elt S.next acc (I (i + 1)) S' (takeT xs one x (wipeW σ xs)))
    (hd : ∀ acc S', acc.length = vs.length → S'.get S.next = some (.lst acc) → I vs.length acc S' → Q (.ref S.next) S') : kLc c σ Q Z xs one elt .no S (.ref n) S := lc_list_inv' (isDct_nod h0) I hl h0 hn hI hs hd
end
end D
end

section
/-! Shares: the program's own defs, walked. -/
namespace D
open PySem L2
local macro_rules | `(tactic| x_go) => `(tactic| simp (disch := first | assumption | omega | ((simp only [new_next, put_next]) <;> omega) | fail) only [*, k_SortL, cut_mid, g_sorted, map_erase, beq_self_eq_true, Bool.true_eq_false, g_ext, g_sum, k_SumI, k_SumM, g_min, k_MinI, g_max, k_MaxI, g_dictR, k_DictD, f_lrng, kd_tup', g_cntT, in_refI, inD_l, inD_d, cut_from, cut_from1, h_LcT, eq_tI, int_beq, x_nil, y_cons, x_pass, y_ex, y_set, y_setA, y_setI, y_setT, y_par, y_ite, y_ret, x_retN, x_rse, y_tri, y_forE, y_turn, e_var, e_int, e_bl, e_non, e_str, e_gi, e_gs, q_bin, q_neg, q_nt, q_and, q_or, q_cmp, q_chain, q_ife, q_call, q_new, q_meth, q_bi, q_bm, q_attr, q_ix, q_sl, q_rev, e_tup, q_lst, e_dct0, q_dctk, q_isi, q_rng1, q_rng2, e_nil, q_cons, q_kv, k_E2, k_Bin, k_Cmp, k_Ix, k_Cons, k_Rng2, k_Kv1, k_Kv, k_Neg, k_Nt, k_And, i_And, i_AndF, k_Or, i_Or, i_OrF, k_Ife, i_Ife, i_IfeF, k_Ch, k_Ch1, i_Ch, i_ChF, k_Call, k_New, k_New1, k_Me, k_Me1, k_Me2, k_Bi, k_Bm, k_Bm1, k_Bm2, k_Opt, k_Bl, k_NBl, k_At, k_At1, k_Int, k_Sl, k_Sl1, k_Sl2, ev_t, ev_f, isNo, k_Rev, k_Rev1, k_Lst, k_Dct, k_Dct1, k_Dct2, k_Isi, k_Rng1, g_eq, g_ne, g_in, g_nin, g_ixT, g_ixR, k_ItmL, k_ItmD, k_ItK, w_keyI, w_keyS, g_slR, k_Lst1, g_addL, k_AddL, g_mulL, k_MulL, g_lenR, k_LenL, k_LenF, k_LenD, g_listR, k_SeqLL, k_SeqLF, g_tupR, k_SeqTL, k_SeqTF, g_app, k_App, g_ins, k_Ins, g_clr, k_Clr, g_pop, k_PopL, k_PopD, k_Pop1, k_Pop2, k_PopD1, g_get, k_GetI, k_GetS, h_Seq, h_End, h_Drop, h_Set, h_SA, h_SA1, h_SA2, h_SI, h_SI1, h_SI2, h_SI3, h_SI3D, h_SI3S, h_SIl, h_Env, h_ST, h_Par, h_Ite, i_Ite, i_IteF, h_Turn, h_zE, varP_some, put_get, put_ne, put_next, new_get, new_ne, new_at, new_next, b_add, b_sub, b_mul, b_div, b_mod, b_addS, b_addT, c_lt, c_le, c_gt, c_ge, c_is, c_isn, eq_int, eq_str, eq_bl, eq_si, eq_is, eq_nn, eq_ni, eq_in, eq_ref, nodL_l, nodL_f, eqN_s, eqLs_ints, eqLs_ints0, eqLs_nn, eqLs_c0, i_str, s_tup, s_str, at_nat, ix_nat, at_last', implies_true, not_true_eq_false, not_false_eq_true, Int.toNat_zero, Int.toNat_one, Int.reduceToNat, List.length_cons, List.length_nil, List.length_map, List.length_append, List.length_set, List.eraseIdx_cons_zero, f_lenT, f_lenS, f_listT, f_intI, f_intD, f_minI, f_maxI, f_str, kd_ref, kd_str', kdP_lst, kdP_dct, fitK, isi_non, isi_int, isi_bl, isi_str, isi_tup, isi_ref, isiN_l, isiN_f, isiN_d, tyI, tyB, tySt, tyT, tyL, isN, h_Pur, pT_t, pT_f, isQ_i, wipe_nil, wipe_cons, new_put, put_put, Int.toNat_natCast, val_same, cut2_1, fld, putf, if_true, if_false, eq_self, take_one, take_tup, setAll_nil, setAll_cons, List.getElem?_cons_zero, List.getElem?_cons_succ, List.set_cons_zero, List.set_cons_succ, List.map_cons, List.map_nil, List.cons_append, List.nil_append, decide_eq_true_eq, Bool.false_eq_true, true_and, and_true, Bool.not_true, Bool.not_false, Bool.not_eq_true', decide_eq_false_iff_not, reduceCtorEq])
def optW : Option Int → W
  | some i => .int i
  | none => .non
def mkQ (o : Option Int) (S : Sto) : PQ := fun v S' => v = optW o ∧ Fr [] S S'
def mkI (sh ov : Int) (r hs : List Int) (u : Int → Int) (n d : Nat) (S : Sto) (i : Nat) : PN := fun σ S' => ∃ o8 o9 o10 o11, σ = [some (.tup (r.map .int)), some (.ref n), some (.ref d), some (.int sh), some (.int ov), some (.int (Fo sh u (hs.take i))), some (.int (Gn sh r u (hs.take i))), some (.int (Kp sh r u (hs.take i))), o8, o9, o10, o11] ∧ Fr [] S S' ∧ ∀ h ∈ hs.take i, ¬ (sh - u h < -1)
theorem mkI_i {sh ov : Int} {r hs : List Int} {u : Int → Int} {n d : Nat} {S S' : Sto} {i : Nat} {f g q : Int} {o8 o9 o10 o11 : Option W} (e1 : f = Fo sh u (hs.take i)) (e2 : g = Gn sh r u (hs.take i)) (e3 : q = Kp sh r u (hs.take i)) (fr : Fr [] S S') (hb : ∀ h ∈ hs.take i, ¬ (sh - u h < -1)) :
    mkI sh ov r hs u n d S i [some (.tup (r.map .int)), some (.ref n), some (.ref d), some (.int sh), some (.int ov), some (.int f), some (.int g), some (.int q), o8, o9, o10, o11] S' := ⟨o8, o9, o10, o11, by rw [e1, e2, e3], fr, hb⟩
theorem mkept_ok {T : Tab} (hT : T (.fn .n_most_kept) = some b_most_kept) {k n d : Nat} {hs r : List Int} {u : Int → Int} {S : Sto} {Z : PZ} (hn : S.get n = some (.lst (hs.map .int))) (ln : n < S.next) (hd : S.get d = some (.dct false (kv hs u))) (ld : d < S.next) (h0 : 0 < hs.length) (hl : hs.length ≤ 6) (rl : r.length ≤ 12) :
    (run T (k + 1) (.fn .n_most_kept) [.tup (r.map .int), .ref n, .ref d] S).wp (mkQ (mkept (12 / (hs.length : Int)) r u hs (12 % (hs.length : Int))) S) Z := by
  have hlim : lim = 16000000 := rfl
  refine run_q hT rfl ?_
  show (exec (run T k) b_most_kept.body [some (.tup (r.map .int)), some (.ref n), some (.ref d), none, none, none, none, none, none, none, none, none] S).wp _ _ _
  unfold b_most_kept
  dsimp only
  generalize hsh : (12 / (hs.length : Int)) = sh
  generalize hov : (12 % (hs.length : Int)) = ov
  x_go
  refine ⟨by omega, by omega, ?_⟩
  refine y_forL ?_
  x_go
  refine forL_ints (ns := hs) (by x_go) (mkI sh ov r hs u n d S)
    ⟨none, none, none, none, by simp [Fo, Gn, Kp], Fr.refl, by simp⟩ (fun i σ S' hi ⟨_, _, _, _, e, fr, _⟩ => by rw [fr.eq n ln (by simp), hn]; rfl) (fun i z σ S' hz ⟨o8, o9, o10, o11, e, fr, hb⟩ => ?_) (fun σ S' ⟨o8, o9, o10, o11, e, fr, hb⟩ => ?_)
  · subst e
    have hn1 : S'.get n = some (.lst (hs.map .int)) := (fr.eq n ln (by simp)).trans hn
    have hd1 : S'.get d = some (.dct false (kv hs u)) := (fr.eq d ld (by simp)).trans hd
    have ln1 : n < S'.next := Nat.lt_of_lt_of_le ln fr.le
    have ld1 : d < S'.next := Nat.lt_of_lt_of_le ld fr.le
    have mz : z ∈ hs := List.mem_of_getElem? hz
    have hv := kv_val (u := u) mz
    have hc := len_filter (xs := r) (z := z)
    clear hn hd
    x_go
    refine y_lc ?_
    x_go
    refine lc_tmap_i (l := r) .int (fun a => decide (a = z)) .int (by omega) (fun a acc _ => by x_go) ?_
    x_go
    have eF := sum_take (f := F1 sh u) hz
    have eG := sum_take (f := G1 sh r u) hz
    have eK := sum_take (f := K1 sh r u) hz
    have fr' : ∀ d, Fr [] S (S'.new d) := fun d => fr.trans (B := []) ⟨by simp only [new_next]; omega, fun m hm _ => by x_go⟩ (fun m hm hx => hx)
    have nb : ¬ (sh - u z < -1) → ∀ h ∈ hs.take (i + 1), ¬ (sh - u h < -1) := fun q h m => by
      rw [List.take_succ, hz] at m
      simp only [Option.toList_some, List.mem_append, List.mem_singleton] at m
      rcases m with m | m
      · exact hb h m
      · rw [m]; exact q
    refine sel_i (fun h => ?_) (fun h => ?_)
    · have e1 : F1 sh u z = 1 := if_pos h
      have e2 : G1 sh r u z = 0 := if_pos h
      have e3 : K1 sh r u z = 0 := if_pos h
      x_go
      refine sel_i (fun h2 => ?_) (fun h2 => ?_)
      · x_go
        refine ⟨?_, fr' _⟩
        unfold mkept
        rw [if_pos ⟨z, mz, by omega⟩]; rfl
      · x_go
        exact mkI_i (by unfold Fo; rw [eF, e1]) (by unfold Gn; rw [eG, e2]; simp) (by unfold Kp; rw [eK, e3]; simp) (fr' _) (nb (by omega))
    · have e1 : F1 sh u z = 0 := if_neg h
      have e2 : G1 sh r u z = b01 (ct r z > sh - u z) := if_neg h
      have e3 : K1 sh r u z = min (ct r z) (sh - u z) := if_neg h
      x_go
      exact mkI_i (by unfold Fo; rw [eF, e1]; simp) (by unfold Gn; rw [eG, e2]) (by unfold Kp; rw [eK, e3]) (fr' _) (nb (by omega))
  · subst e
    rw [List.take_length] at *
    have nb : ¬ ∃ h ∈ hs, sh - u h < -1 := fun ⟨h, m, q⟩ => hb h m q
    x_go
    refine sel_i (fun h => ?_) (fun h => ?_)
    · x_go
      refine ⟨?_, fr⟩
      unfold mkept
      rw [if_neg nb, if_pos (by omega)]; rfl
    · x_go
      refine ⟨?_, fr⟩
      unfold mkept
      rw [if_neg nb, if_neg (by omega)]; rfl
end D
end

section
/-! Shares: shared_by, walked. -/
namespace D
open PySem L2
local macro_rules | `(tactic| x_go) => `(tactic| simp (disch := first | assumption | omega | ((simp only [new_next, put_next]) <;> omega) | fail) only [*, k_SortL, cut_mid, g_sorted, map_erase, beq_self_eq_true, Bool.true_eq_false, g_ext, g_sum, k_SumI, k_SumM, g_min, k_MinI, g_max, k_MaxI, g_dictR, k_DictD, f_lrng, kd_tup', g_cntT, in_refI, inD_l, inD_d, cut_from, cut_from1, h_LcT, eq_tI, int_beq, x_nil, y_cons, x_pass, y_ex, y_set, y_setA, y_setI, y_setT, y_par, y_ite, y_ret, x_retN, x_rse, y_tri, y_forE, y_turn, e_var, e_int, e_bl, e_non, e_str, e_gi, e_gs, q_bin, q_neg, q_nt, q_and, q_or, q_cmp, q_chain, q_ife, q_call, q_new, q_meth, q_bi, q_bm, q_attr, q_ix, q_sl, q_rev, e_tup, q_lst, e_dct0, q_dctk, q_isi, q_rng1, q_rng2, e_nil, q_cons, q_kv, k_E2, k_Bin, k_Cmp, k_Ix, k_Cons, k_Rng2, k_Kv1, k_Kv, k_Neg, k_Nt, k_And, i_And, i_AndF, k_Or, i_Or, i_OrF, k_Ife, i_Ife, i_IfeF, k_Ch, k_Ch1, i_Ch, i_ChF, k_Call, k_New, k_New1, k_Me, k_Me1, k_Me2, k_Bi, k_Bm, k_Bm1, k_Bm2, k_Opt, k_Bl, k_NBl, k_At, k_At1, k_Int, k_Sl, k_Sl1, k_Sl2, ev_t, ev_f, isNo, k_Rev, k_Rev1, k_Lst, k_Dct, k_Dct1, k_Dct2, k_Isi, k_Rng1, g_eq, g_ne, g_in, g_nin, g_ixT, g_ixR, k_ItmL, k_ItmD, k_ItK, w_keyI, w_keyS, g_slR, k_Lst1, g_addL, k_AddL, g_mulL, k_MulL, g_lenR, k_LenL, k_LenF, k_LenD, g_listR, k_SeqLL, k_SeqLF, g_tupR, k_SeqTL, k_SeqTF, g_app, k_App, g_ins, k_Ins, g_clr, k_Clr, g_pop, k_PopL, k_PopD, k_Pop1, k_Pop2, k_PopD1, g_get, k_GetI, k_GetS, h_Seq, h_End, h_Drop, h_Set, h_SA, h_SA1, h_SA2, h_SI, h_SI1, h_SI2, h_SI3, h_SI3D, h_SI3S, h_SIl, h_Env, h_ST, h_Par, h_Ite, i_Ite, i_IteF, h_Turn, h_zE, varP_some, put_get, put_ne, put_next, new_get, new_ne, new_at, new_next, b_add, b_sub, b_mul, b_div, b_mod, b_addS, b_addT, c_lt, c_le, c_gt, c_ge, c_is, c_isn, eq_int, eq_str, eq_bl, eq_si, eq_is, eq_nn, eq_ni, eq_in, eq_ref, nodL_l, nodL_f, eqN_s, eqLs_ints, eqLs_ints0, eqLs_nn, eqLs_c0, i_str, s_tup, s_str, at_nat, ix_nat, at_last', implies_true, not_true_eq_false, not_false_eq_true, Int.toNat_zero, Int.toNat_one, Int.reduceToNat, List.length_cons, List.length_nil, List.length_map, List.length_append, List.length_set, List.eraseIdx_cons_zero, f_lenT, f_lenS, f_listT, f_intI, f_intD, f_minI, f_maxI, f_str, kd_ref, kd_str', kdP_lst, kdP_dct, fitK, isi_non, isi_int, isi_bl, isi_str, isi_tup, isi_ref, isiN_l, isiN_f, isiN_d, tyI, tyB, tySt, tyT, tyL, isN, h_Pur, pT_t, pT_f, isQ_i, wipe_nil, wipe_cons, new_put, put_put, Int.toNat_natCast, val_same, cut2_1, fld, putf, if_true, if_false, eq_self, take_one, take_tup, setAll_nil, setAll_cons, List.getElem?_cons_zero, List.getElem?_cons_succ, List.set_cons_zero, List.set_cons_succ, List.map_cons, List.map_nil, List.cons_append, List.nil_append, decide_eq_true_eq, Bool.false_eq_true, true_and, and_true, Bool.not_true, Bool.not_false, Bool.not_eq_true', decide_eq_false_iff_not, reduceCtorEq])
def pA (hs : List Int) (sh ov o : Int) (r : List Int) (u : Int → Int) (b h : Int) : Bool := match mkept sh r (up1 u h 1) hs ov with
  | some v => decide (b01 (o = h) + v = b)
  | none => false
theorem gA_cons {hs : List Int} {sh ov o : Int} {r : List Int} {u : Int → Int} {b : Int} : gA hs sh ov (o :: r) u b = match hs.find? (pA hs sh ov o r u b) with
    | some h => h :: gA hs sh ov r (up1 u h 1) (b - b01 (o = h))
    | none => [] := rfl
theorem kv_up {hs : List Int} {u : Int → Int} {h d : Int} (m : h ∈ hs) : putW (kv hs u) (.inl h) (.int (u h + d)) = kv hs (up1 u h d) := by
  rw [kv_put m]
  refine kv_congr fun k _ => ?_
  unfold up1
  split
  · rename_i e; rw [e]
  · rfl
theorem up1_own {u : Int → Int} {h d : Int} : up1 u h d h = u h + d := by unfold up1; rw [if_pos rfl]
theorem kv_back {hs : List Int} {u : Int → Int} {h : Int} (m : h ∈ hs) : putW (kv hs (up1 u h 1)) (.inl h) (.int (u h + 1 - 1)) = kv hs u := by
  rw [kv_put m]
  refine kv_congr fun k _ => ?_
  unfold up1
  split
  · rename_i e; rw [e]; omega
  · rfl
theorem Fr.nw {S S' : Sto} {d : Nd} (h : Fr [] S S') : Fr [] S (S'.new d) := h.trans (B := []) ⟨by simp only [new_next]; omega, fun m hm _ => new_ne hm⟩ (fun _ _ hx => hx)
/-- what shared_by holds -/
structure SB (S S' : Sto) (n D F : Nat) (hs : List Int) (u : Int → Int) (p : List Int) : Prop where
  hn : S'.get n = some (.lst (hs.map .int))
  hD : S'.get D = some (.dct false (kv hs u))
  hF : S'.get F = some (.lst (p.map .int))
  ln : n < S'.next
  lD : D < S'.next
  lF : F < S'.next
  oD : S.next ≤ D
  oF : S.next ≤ F
  ne : n ≠ D ∧ n ≠ F ∧ D ≠ F
  fr : Fr [] S S'
theorem SB.fr1 {S S' S2 : Sto} {n D F : Nat} {hs : List Int} {u : Int → Int} {p : List Int} (b : SB S S' n D F hs u p) (f : Fr [] S' S2) : SB S S2 n D F hs u p :=
  ⟨(f.eq n b.ln (by simp)).trans b.hn, (f.eq D b.lD (by simp)).trans b.hD, (f.eq F b.lF (by simp)).trans b.hF, Nat.lt_of_lt_of_le b.ln f.le, Nat.lt_of_lt_of_le b.lD f.le, Nat.lt_of_lt_of_le b.lF f.le, b.oD, b.oF, b.ne, b.fr.trans f (fun _ _ h => h)⟩
theorem SB.putD {S S' : Sto} {n D F : Nat} {hs : List Int} {u v : Int → Int} {p : List Int} (b : SB S S' n D F hs u p) : SB S (S'.put D (.dct false (kv hs v))) n D F hs v p := by
  obtain ⟨hn, hD, hF, ln, lD, lF, oD, oF, ne, fr⟩ := b
  refine ⟨by x_go, by x_go, by x_go, ln, lD, lF, oD, oF, ne, fr.le, fun m hm hx => ?_⟩
  rw [put_ne (by omega)]; exact fr.eq m hm hx
theorem SB.putF {S S' : Sto} {n D F : Nat} {hs : List Int} {u : Int → Int} {p q : List Int} (b : SB S S' n D F hs u p) : SB S (S'.put F (.lst (q.map .int))) n D F hs u q := by
  obtain ⟨hn, hD, hF, ln, lD, lF, oD, oF, ne, fr⟩ := b
  refine ⟨by x_go, by x_go, by x_go, ln, lD, lF, oD, oF, ne, fr.le, fun m hm hx => ?_⟩
  rw [put_ne (by omega)]; exact fr.eq m hm hx
def sbI (os hs : List Int) (n D F : Nat) (best sh ov : Int) (S : Sto) (i : Nat) : PN := fun σ S' => ∃ kept u p o6 o7 o8 o9, σ = [some (.tup (os.map .int)), some (.ref n), some (.ref D), some (.int best), some (.int kept), some (.ref F), o6, o7, o8, o9] ∧ SB S S' n D F hs u p ∧ p.length = i ∧ p ++ gA hs sh ov (os.drop i) u (best - kept) = gA hs sh ov os (fun _ => 0) best
def sbJ (os hs : List Int) (n D F : Nat) (best sh ov : Int) (S : Sto) (i : Nat) (o kept : Int) (u : Int → Int) (p : List Int) (j : Nat) : PN := fun σ S' => ∃ o7 o8 o9, match (hs.take j).find? (pA hs sh ov o (os.drop (i + 1)) u (best - kept)) with
  | none => σ = [some (.tup (os.map .int)), some (.ref n), some (.ref D), some (.int best), some (.int kept), some (.ref F), some (.int i), o7, o8, o9] ∧ SB S S' n D F hs u p
  | some h => σ = [some (.tup (os.map .int)), some (.ref n), some (.ref D), some (.int best), some (.int (kept + b01 (o = h))), some (.ref F), some (.int i), o7, o8, o9] ∧ SB S S' n D F hs (up1 u h 1) (p ++ [h])
theorem sbJ_n {os hs : List Int} {n D F : Nat} {best sh ov : Int} {S S' : Sto} {i j : Nat} {o kept : Int} {u : Int → Int} {p : List Int} {o7 o8 o9 : Option W} (e : (hs.take j).find? (pA hs sh ov o (os.drop (i + 1)) u (best - kept)) = none) (b : SB S S' n D F hs u p) :
    sbJ os hs n D F best sh ov S i o kept u p j [some (.tup (os.map .int)), some (.ref n), some (.ref D), some (.int best), some (.int kept), some (.ref F), some (.int i), o7, o8, o9] S' := ⟨o7, o8, o9, by rw [e]; exact ⟨rfl, b⟩⟩
theorem sbJ_s {os hs : List Int} {n D F : Nat} {best sh ov : Int} {S S' : Sto} {i j : Nat} {o kept h kk : Int} {u : Int → Int} {p : List Int} {o7 o8 o9 : Option W} (e : (hs.take j).find? (pA hs sh ov o (os.drop (i + 1)) u (best - kept)) = some h) (ek : kk = kept + b01 (o = h)) (b : SB S S' n D F hs (up1 u h 1) (p ++ [h])) :
    sbJ os hs n D F best sh ov S i o kept u p j [some (.tup (os.map .int)), some (.ref n), some (.ref D), some (.int best), some (.int kk), some (.ref F), some (.int i), o7, o8, o9] S' := ⟨o7, o8, o9, by rw [e, ek]; exact ⟨rfl, b⟩⟩
theorem find_take {p : Int → Bool} {hs : List Int} {j : Nat} {z : Int} (h : hs[j]? = some z) : (hs.take (j + 1)).find? p = match (hs.take j).find? p with
    | some a => some a
    | none => if p z then some z else none := by
  rw [List.take_succ, h, Option.toList_some, List.find?_append]
  cases (hs.take j).find? p with
  | some a => rfl
  | none =>
    show ([z].find? p) = _
    rw [List.find?_cons]
    cases p z <;> simp
theorem optW_s {i : Int} : optW (some i) = .int i := rfl
theorem optW_n : optW none = .non := rfl
def tupQ (xs : List Int) (S : Sto) : PQ := fun v S' => v = .tup (xs.map .int) ∧ Fr [] S S'
theorem shared_by_ok {T : Tab} (hT : T (.fn .n_shared_by) = some b_shared_by) (hM : T (.fn .n_most_kept) = some b_most_kept) {k n : Nat} {hs os : List Int} {S : Sto} {Z : PZ} {best : Int} (hn : S.get n = some (.lst (hs.map .int))) (ln : n < S.next) (h0 : 0 < hs.length) (hl : hs.length ≤ 6) (ol : os.length = 12) (nd : hs.Nodup)
    (hb : mkept (12 / (hs.length : Int)) os (fun _ => 0) hs (12 % (hs.length : Int)) = some best) (hg : (gA hs (12 / (hs.length : Int)) (12 % (hs.length : Int)) os (fun _ => 0) best).length = 12) :
    (run T (k + 2) (.fn .n_shared_by) [.tup (os.map .int), .ref n] S).wp (tupQ (gA hs (12 / (hs.length : Int)) (12 % (hs.length : Int)) os (fun _ => 0) best) S) Z := by
  have hlim : lim = 16000000 := rfl
  refine run_q hT rfl ?_
  show (exec (run T (k + 1)) b_shared_by.body [some (.tup (os.map .int)), some (.ref n), none, none, none, none, none, none, none, none] S).wp _ _ _
  unfold b_shared_by
  dsimp only
  x_go
  refine y_lc ?_
  x_go
  refine lc_all_i (l := hs) .int (fun h => .tup [.int h, .int 0]) (by x_go) (by x_go) (by omega) (fun a acc _ => by x_go) ?_
  have kd := fun Q S => k_DictK (Q := Q) (S := S) (u := fun _ => 0) nd
  x_go
  generalize hS1 : ((S.new (Nd.lst (List.map (fun h => W.tup [W.int h, W.int 0]) hs))).new (Nd.dct false (kv hs fun x => 0))) = S1
  have f1 : Fr [] S S1 := by rw [← hS1]; exact Fr.refl.nw.nw
  have hD1 : S1.get (S.next + 1) = some (.dct false (kv hs fun _ => 0)) := by rw [← hS1]; exact new_get
  have n1 : S1.next = S.next + 1 + 1 := by rw [← hS1]; rfl
  have hn1 : S1.get n = some (.lst (hs.map .int)) := (f1.eq n ln (by simp)).trans hn
  refine R.wp_mono (mkept_ok hM (u := fun _ => 0) hn1 (by omega) hD1 (by omega) h0 hl (by omega)) (fun v S2 ⟨ev, f2⟩ => ?_) (fun _ _ z => z)
  subst ev
  rw [hb, optW_s]
  have f12 := f1.trans f2 (fun _ _ hx => hx)
  have hn2 := (f2.eq n (by omega) (by simp)).trans hn1
  have hD2 := (f2.eq (S.next + 1) (by omega) (by simp)).trans hD1
  have n2 : S.next + 1 + 1 ≤ S2.next := by have := f2.le; omega
  clear hS1 hn1 hD1 f2 kd
  x_go
  have b3 : SB S (S2.new (.lst [])) n (S.next + 1) S2.next hs (fun _ => 0) [] := by
    exact ⟨by x_go, by x_go, new_get, by simp only [new_next]; omega, by simp only [new_next]; omega, by simp only [new_next]; omega, by omega, by omega, by omega, f12.nw⟩
  generalize S2.new (.lst []) = S3 at b3
  generalize hF : S2.next = F at b3
  generalize hD : S.next + 1 = D at b3
  clear hn2 hD2 n2 f12 hn
  generalize hsh : (12 / (hs.length : Int)) = sh at *
  generalize hov : (12 % (hs.length : Int)) = ov at *
  refine y_forT ?_
  x_go
  refine ⟨by omega, ?_⟩
  refine forT_rng0 (sbI os hs n D F best sh ov S) ⟨0, fun _ => 0, [], none, none, none, none, rfl, b3, rfl, by simp⟩ (fun i σ S' hi ⟨kept, u, p, o6, o7, o8, o9, e, b, hp, hG⟩ => ?_) (fun σ S' ⟨kept, u, p, o6, o7, o8, o9, e, b, hp, hG⟩ => ?_)
  · subst e
    have hi' : i < os.length := by omega
    have ho : os[i]? = some os[i] := List.getElem?_eq_getElem hi'
    generalize os[i] = o at ho
    have hdr : os.drop i = o :: os.drop (i + 1) := drop_at ho
    have hwo : (os.map W.int)[i]? = some (.int o) := by rw [List.getElem?_map, ho]; rfl
    have rl : (os.drop (i + 1)).length ≤ 12 := by rw [List.length_drop]; omega
    -- somebody is next
    have hnx : ∃ h, hs.find? (pA hs sh ov o (os.drop (i + 1)) u (best - kept)) = some h := by
      rw [hdr, gA_cons] at hG
      cases e : hs.find? (pA hs sh ov o (os.drop (i + 1)) u (best - kept)) with
      | some h => exact ⟨h, rfl⟩
      | none =>
        rw [e] at hG
        have := congrArg List.length hG
        simp only [List.append_nil] at this
        omega
    obtain ⟨hx, ex⟩ := hnx
    x_go
    refine y_forL ?_
    x_go
    have hn' := b.hn
    refine forL_ints (ns := hs) (by x_go) (sbJ os hs n D F best sh ov S i o kept u p) (sbJ_n (by simp) b) (fun j σ S' hj ⟨o7, o8, o9, h⟩ => ?_) (fun j z σ S' hz ⟨o7, o8, o9, h⟩ => ?_) (fun σ S' ⟨o7, o8, o9, h⟩ => ?_)
    · cases e : (hs.take j).find? (pA hs sh ov o (os.drop (i + 1)) u (best - kept)) with
      | none => rw [e] at h; rw [h.2.hn]; rfl
      | some a => rw [e] at h; rw [h.2.hn]; rfl
    · clear hn' b
      have mz : z ∈ hs := List.mem_of_getElem? hz
      cases e : (hs.take j).find? (pA hs sh ov o (os.drop (i + 1)) u (best - kept)) with
      | some a =>
        rw [e] at h
        obtain ⟨eσ, b⟩ := h
        subst eσ
        have hF := b.hF
        x_go
        refine sel_i (fun hq => absurd hq (by omega)) (fun _ => ?_)
        x_go
        exact sbJ_s (by rw [find_take hz, e]) rfl b
      | none =>
        rw [e] at h
        obtain ⟨eσ, b⟩ := h
        subst eσ
        have hF := b.hF
        have hDD := b.hD
        have hq : (p.length : Int) = (i : Int) := by omega
        have v1 := kv_val (u := u) mz
        have v2 := kv_up (u := u) (d := 1) mz
        have v3 := kv_val (u := up1 u z 1) mz
        rw [up1_own] at v3
        have v4 := kv_back (u := u) mz
        x_go
        refine ⟨by rw [kv_len]; omega, ?_⟩
        have b1 := b.putD (v := up1 u z 1)
        generalize hS4 : S'.put D (.dct false (kv hs (up1 u z 1))) = S4 at b1
        refine R.wp_mono (mkept_ok hM (hs := hs) (r := os.drop (i + 1)) (u := up1 u z 1) b1.hn b1.ln b1.hD b1.lD h0 hl rl) (fun v S5 ⟨ev, f5⟩ => ?_) (fun _ _ z => z)
        subst ev
        rw [hsh, hov]
        have b2 := b1.fr1 f5
        have hF5 := b2.hF
        have hD5 := b2.hD
        have nxt := find_take (p := pA hs sh ov o (os.drop (i + 1)) u (best - kept)) hz
        rw [e] at nxt
        cases em : mkept sh (os.drop (i + 1)) (up1 u z 1) hs ov with
        | none =>
          rw [optW_n]
          have ep : pA hs sh ov o (os.drop (i + 1)) u (best - kept) z = false := by unfold pA; rw [em]
          rw [ep] at nxt
          clear hF hDD b b1 hS4
          x_go
          refine ⟨by rw [kv_len]; omega, ?_⟩
          exact sbJ_n nxt b2.putD
        | some w =>
          rw [optW_s]
          clear hF hDD b b1 hS4
          x_go
          refine sel_i (fun hc => ?_) (fun hc => ?_)
          · have ep : pA hs sh ov o (os.drop (i + 1)) u (best - kept) z = true := by unfold pA; rw [em]; exact decide_eq_true (by omega)
            rw [ep] at nxt
            x_go
            refine ⟨by omega, ?_⟩
            have eq : (p.map W.int ++ [W.int z]) = (p ++ [z]).map .int := by simp
            rw [eq]
            exact sbJ_s nxt rfl b2.putF
          · have ep : pA hs sh ov o (os.drop (i + 1)) u (best - kept) z = false := by unfold pA; rw [em]; exact decide_eq_false (by omega)
            rw [ep] at nxt
            x_go
            refine ⟨by rw [kv_len]; omega, ?_⟩
            exact sbJ_n nxt b2.putD
    · rw [List.take_length, ex] at h
      obtain ⟨eσ, b'⟩ := h
      subst eσ
      refine ⟨kept + b01 (o = hx), up1 u hx 1, p ++ [hx], _, _, _, _, rfl, b', by simp [hp], ?_⟩
      rw [← hG, hdr, gA_cons, ex, show best - (kept + b01 (o = hx)) = best - kept - b01 (o = hx) by omega]
      simp
  · subst e
    have e12 : (12 : Int).toNat = os.length := by omega
    rw [e12, List.drop_length] at hG
    have hF := b.hF
    have hG' : p = gA hs sh ov os (fun _ => 0) best := by rw [← hG]; simp [gA]
    x_go
    exact ⟨rfl, b.fr⟩
end D
end

section
/-! Shares: shared, walked. -/
namespace D
open PySem L2
local macro_rules | `(tactic| x_go) => `(tactic| simp (disch := first | assumption | omega | ((simp only [new_next, put_next]) <;> omega) | fail) only [*, k_SortL, cut_mid, g_sorted, map_erase, beq_self_eq_true, Bool.true_eq_false, g_ext, g_sum, k_SumI, k_SumM, g_min, k_MinI, g_max, k_MaxI, g_dictR, k_DictD, f_lrng, kd_tup', g_cntT, in_refI, inD_l, inD_d, cut_from, cut_from1, h_LcT, eq_tI, int_beq, x_nil, y_cons, x_pass, y_ex, y_set, y_setA, y_setI, y_setT, y_par, y_ite, y_ret, x_retN, x_rse, y_tri, y_forE, y_turn, e_var, e_int, e_bl, e_non, e_str, e_gi, e_gs, q_bin, q_neg, q_nt, q_and, q_or, q_cmp, q_chain, q_ife, q_call, q_new, q_meth, q_bi, q_bm, q_attr, q_ix, q_sl, q_rev, e_tup, q_lst, e_dct0, q_dctk, q_isi, q_rng1, q_rng2, e_nil, q_cons, q_kv, k_E2, k_Bin, k_Cmp, k_Ix, k_Cons, k_Rng2, k_Kv1, k_Kv, k_Neg, k_Nt, k_And, i_And, i_AndF, k_Or, i_Or, i_OrF, k_Ife, i_Ife, i_IfeF, k_Ch, k_Ch1, i_Ch, i_ChF, k_Call, k_New, k_New1, k_Me, k_Me1, k_Me2, k_Bi, k_Bm, k_Bm1, k_Bm2, k_Opt, k_Bl, k_NBl, k_At, k_At1, k_Int, k_Sl, k_Sl1, k_Sl2, ev_t, ev_f, isNo, k_Rev, k_Rev1, k_Lst, k_Dct, k_Dct1, k_Dct2, k_Isi, k_Rng1, g_eq, g_ne, g_in, g_nin, g_ixT, g_ixR, k_ItmL, k_ItmD, k_ItK, w_keyI, w_keyS, g_slR, k_Lst1, g_addL, k_AddL, g_mulL, k_MulL, g_lenR, k_LenL, k_LenF, k_LenD, g_listR, k_SeqLL, k_SeqLF, g_tupR, k_SeqTL, k_SeqTF, g_app, k_App, g_ins, k_Ins, g_clr, k_Clr, g_pop, k_PopL, k_PopD, k_Pop1, k_Pop2, k_PopD1, g_get, k_GetI, k_GetS, h_Seq, h_End, h_Drop, h_Set, h_SA, h_SA1, h_SA2, h_SI, h_SI1, h_SI2, h_SI3, h_SI3D, h_SI3S, h_SIl, h_Env, h_ST, h_Par, h_Ite, i_Ite, i_IteF, h_Turn, h_zE, varP_some, put_get, put_ne, put_next, new_get, new_ne, new_at, new_next, b_add, b_sub, b_mul, b_div, b_mod, b_addS, b_addT, c_lt, c_le, c_gt, c_ge, c_is, c_isn, eq_int, eq_str, eq_bl, eq_si, eq_is, eq_nn, eq_ni, eq_in, eq_ref, nodL_l, nodL_f, eqN_s, eqLs_ints, eqLs_ints0, eqLs_nn, eqLs_c0, i_str, s_tup, s_str, at_nat, ix_nat, at_last', implies_true, not_true_eq_false, not_false_eq_true, Int.toNat_zero, Int.toNat_one, Int.reduceToNat, List.length_cons, List.length_nil, List.length_map, List.length_append, List.length_set, List.eraseIdx_cons_zero, f_lenT, f_lenS, f_listT, f_intI, f_intD, f_minI, f_maxI, f_str, kd_ref, kd_str', kdP_lst, kdP_dct, fitK, isi_non, isi_int, isi_bl, isi_str, isi_tup, isi_ref, isiN_l, isiN_f, isiN_d, tyI, tyB, tySt, tyT, tyL, isN, h_Pur, pT_t, pT_f, isQ_i, wipe_nil, wipe_cons, new_put, put_put, Int.toNat_natCast, val_same, cut2_1, fld, putf, if_true, if_false, eq_self, take_one, take_tup, setAll_nil, setAll_cons, List.getElem?_cons_zero, List.getElem?_cons_succ, List.set_cons_zero, List.set_cons_succ, List.map_cons, List.map_nil, List.cons_append, List.nil_append, decide_eq_true_eq, Bool.false_eq_true, true_and, and_true, Bool.not_true, Bool.not_false, Bool.not_eq_true', decide_eq_false_iff_not, reduceCtorEq])
theorem isnum_ok {T : Tab} (hT : T (.fn .n_is_number) = some b_is_number) {k : Nat} {a lo hi : Int} {S : Sto} {Z : PZ} : (run T (k + 1) (.fn .n_is_number) [.int a, .int lo, .int hi] S).wp (isQ (.bl (decide (lo ≤ a ∧ a ≤ hi))) S) Z := by
  refine run_q hT rfl ?_
  show (exec (run T k) b_is_number.body [some (.int a), some (.int lo), some (.int hi)] S).wp _ _ _
  unfold b_is_number
  dsimp only
  x_go
  refine sel_i (fun h => ?_) (fun h => ?_)
  · x_go
  · x_go
    simp [h]
def nonQ (S : Sto) : PQ := fun v S' => v = .non ∧ Fr [] S S'
theorem need_owners_ok {T : Tab} (hT : T (.fn .n_need_owners) = some b_need_owners) (hI : T (.fn .n_is_number) = some b_is_number) {k : Nat} {os : List Int} {S : Sto} {Z : PZ} (ol : os.length = 12) (ho : ∀ o ∈ os, 0 ≤ o ∧ o ≤ 19) :
    (run T (k + 2) (.fn .n_need_owners) [.tup (os.map .int)] S).wp (nonQ S) Z := by
  have hlim : lim = 16000000 := rfl
  refine run_q hT rfl ?_
  show (exec (run T (k + 1)) b_need_owners.body [some (.tup (os.map .int)), none] S).wp _ _ _
  unfold b_need_owners
  dsimp only
  have e12 : ((12 : Nat) : Int) = 12 := rfl
  x_go
  refine y_lc ?_
  x_go
  refine lc_tmap_i (l := os) .int (fun _ => false) .int (by omega) (fun a acc ma => ?_) ?_
  · x_go
    refine R.wp_mono (isnum_ok hI) (fun v S1 ⟨ev, es⟩ => ?_) (fun _ _ z => z)
    subst ev es
    have := ho a ma
    have q : (0 ≤ a ∧ a ≤ 19) = True := by simp; omega
    x_go
    simp
  · have e : (os.filter fun _ => false) = [] := by simp
    x_go
    exact ⟨rfl, Fr.refl.nw.nw⟩
theorem need_houses_ok {T : Tab} (hT : T (.fn .n_need_houses) = some b_need_houses) (hI : T (.fn .n_is_number) = some b_is_number) {k n : Nat} {hs : List Int} {S : Sto} {Z : PZ} (hn : S.get n = some (.lst (hs.map .int))) (ln : n < S.next) (h0 : 0 < hs.length) (hl : hs.length ≤ 6) (ho : ∀ o ∈ hs, 0 ≤ o ∧ o ≤ 19) (pw : hs.Pairwise (· < ·)) :
    (run T (k + 2) (.fn .n_need_houses) [.ref n] S).wp (nonQ S) Z := by
  have hlim : lim = 16000000 := rfl
  refine run_q hT rfl ?_
  show (exec (run T (k + 1)) b_need_houses.body [some (.ref n), none, none, none] S).wp _ _ _
  unfold b_need_houses
  dsimp only
  x_go
  refine sel_i (fun h => ?_) (fun h => absurd (by omega) h)
  x_go
  refine sel_i (fun h => ?_) (fun h => absurd (by omega) h)
  x_go
  refine y_lc ?_
  x_go
  refine lc_map_i (l := hs) .int (fun _ => false) .int (by x_go) (by x_go) (by omega) (fun a acc ma => ?_) ?_
  · x_go
    refine R.wp_mono (isnum_ok hI) (fun v S1 ⟨ev, es⟩ => ?_) (fun _ _ z => z)
    subst ev es
    have := ho a ma
    have q : (0 ≤ a ∧ a ≤ 19) = True := by simp; omega
    x_go
    simp
  · have e : (hs.filter fun _ => false) = [] := by simp
    x_go
    refine y_lc ?_
    x_go
    refine ⟨by omega, ?_⟩
    refine lc_tmap_i (l := List.range ((hs.length : Int) - 1).toNat) (fun k => .int (1 + (k : Int))) (fun _ => false) (fun _ => .non) (by rw [List.length_range]; omega) (fun a acc ma => ?_) ?_
    · have ha : a + 1 < hs.length := by have := List.mem_range.mp ma; omega
      have g1 : (hs.map W.int)[a]? = some (.int hs[a]) := by rw [List.getElem?_map, List.getElem?_eq_getElem (by omega)]; rfl
      have g2 : (hs.map W.int)[a + 1]? = some (.int hs[a + 1]) := by rw [List.getElem?_map, List.getElem?_eq_getElem ha]; rfl
      have lt : hs[a] < hs[a + 1] := List.pairwise_iff_getElem.mp pw a (a + 1) (by omega) ha (by omega)
      have q : (hs[a + 1] ≤ hs[a]) = False := by simp; omega
      have i1 : (1 + (a : Int) - 1).toNat = a := by omega
      have i2 : (1 + (a : Int)).toNat = a + 1 := by omega
      generalize hs[a] = x at *
      generalize hs[a + 1] = y at *
      clear lt
      x_go
      simp
    · have e : ((List.range ((hs.length : Int) - 1).toNat).filter fun _ => false) = [] := by simp
      x_go
      exact ⟨rfl, Fr.refl.nw.nw.nw.nw⟩
theorem shared_ok {T : Tab} (hT : T (.fn .n_shared) = some b_shared) (hO : T (.fn .n_need_owners) = some b_need_owners) (hH : T (.fn .n_need_houses) = some b_need_houses) (hB : T (.fn .n_shared_by) = some b_shared_by) (hM : T (.fn .n_most_kept) = some b_most_kept) (hI : T (.fn .n_is_number) = some b_is_number)
    {k n : Nat} {hs os : List Int} {S : Sto} {Z : PZ} {best : Int} (hn : S.get n = some (.lst (hs.map .int))) (ln : n < S.next) (h0 : 0 < hs.length) (hl : hs.length ≤ 6) (ho : ∀ o ∈ hs, 0 ≤ o ∧ o ≤ 19) (pw : hs.Pairwise (· < ·)) (ol : os.length = 12) (oo : ∀ o ∈ os, 0 ≤ o ∧ o ≤ 19)
    (hb : mkept (12 / (hs.length : Int)) os (fun _ => 0) hs (12 % (hs.length : Int)) = some best) (hg : (gA hs (12 / (hs.length : Int)) (12 % (hs.length : Int)) os (fun _ => 0) best).length = 12) :
    (run T (k + 3) (.fn .n_shared) [.tup (os.map .int), .ref n] S).wp (tupQ (gA hs (12 / (hs.length : Int)) (12 % (hs.length : Int)) os (fun _ => 0) best) S) Z := by
  have nd : hs.Nodup := pw.imp fun h => by omega
  refine run_q hT rfl ?_
  show (exec (run T (k + 2)) b_shared.body [some (.tup (os.map .int)), some (.ref n)] S).wp _ _ _
  unfold b_shared
  dsimp only
  x_go
  refine R.wp_mono (need_owners_ok hO hI ol oo) (fun v S1 ⟨ev, f1⟩ => ?_) (fun _ _ z => z)
  subst ev
  have hn1 := (f1.eq n ln (by simp)).trans hn
  have ln1 := Nat.lt_of_lt_of_le ln f1.le
  clear hn
  x_go
  refine R.wp_mono (need_houses_ok hH hI hn1 ln1 h0 hl ho pw) (fun v S2 ⟨ev, f2⟩ => ?_) (fun _ _ z => z)
  subst ev
  have hn2 := (f2.eq n ln1 (by simp)).trans hn1
  have ln2 := Nat.lt_of_lt_of_le ln1 f2.le
  clear hn1
  x_go
  have f3 : Fr [] S (S2.new (.lst (hs.map .int))) := (f1.trans f2 (fun _ _ h => h)).nw
  generalize hS3 : S2.new (.lst (hs.map .int)) = S3 at f3
  refine R.wp_mono (shared_by_ok hB hM (by rw [← hS3]; exact new_get) (by rw [← hS3]; exact Nat.lt_succ_self _) h0 hl ol nd hb hg) (fun v S4 ⟨ev, f4⟩ => ?_) (fun _ _ z => z)
  exact ⟨ev, f3.trans f4 (fun _ _ h => h)⟩
end D
end

section
/-! The law of shares: the choices. -/
namespace D
open PySem L2
local macro_rules | `(tactic| x_go) => `(tactic| simp (disch := first | assumption | omega | ((simp only [new_next, put_next]) <;> omega) | fail) only [*, k_SortL, cut_mid, g_sorted, map_erase, beq_self_eq_true, Bool.true_eq_false, g_ext, g_sum, k_SumI, k_SumM, g_min, k_MinI, g_max, k_MaxI, g_dictR, k_DictD, f_lrng, kd_tup', g_cntT, in_refI, inD_l, inD_d, cut_from, cut_from1, h_LcT, eq_tI, int_beq, x_nil, y_cons, x_pass, y_ex, y_set, y_setA, y_setI, y_setT, y_par, y_ite, y_ret, x_retN, x_rse, y_tri, y_forE, y_turn, e_var, e_int, e_bl, e_non, e_str, e_gi, e_gs, q_bin, q_neg, q_nt, q_and, q_or, q_cmp, q_chain, q_ife, q_call, q_new, q_meth, q_bi, q_bm, q_attr, q_ix, q_sl, q_rev, e_tup, q_lst, e_dct0, q_dctk, q_isi, q_rng1, q_rng2, e_nil, q_cons, q_kv, k_E2, k_Bin, k_Cmp, k_Ix, k_Cons, k_Rng2, k_Kv1, k_Kv, k_Neg, k_Nt, k_And, i_And, i_AndF, k_Or, i_Or, i_OrF, k_Ife, i_Ife, i_IfeF, k_Ch, k_Ch1, i_Ch, i_ChF, k_Call, k_New, k_New1, k_Me, k_Me1, k_Me2, k_Bi, k_Bm, k_Bm1, k_Bm2, k_Opt, k_Bl, k_NBl, k_At, k_At1, k_Int, k_Sl, k_Sl1, k_Sl2, ev_t, ev_f, isNo, k_Rev, k_Rev1, k_Lst, k_Dct, k_Dct1, k_Dct2, k_Isi, k_Rng1, g_eq, g_ne, g_in, g_nin, g_ixT, g_ixR, k_ItmL, k_ItmD, k_ItK, w_keyI, w_keyS, g_slR, k_Lst1, g_addL, k_AddL, g_mulL, k_MulL, g_lenR, k_LenL, k_LenF, k_LenD, g_listR, k_SeqLL, k_SeqLF, g_tupR, k_SeqTL, k_SeqTF, g_app, k_App, g_ins, k_Ins, g_clr, k_Clr, g_pop, k_PopL, k_PopD, k_Pop1, k_Pop2, k_PopD1, g_get, k_GetI, k_GetS, h_Seq, h_End, h_Drop, h_Set, h_SA, h_SA1, h_SA2, h_SI, h_SI1, h_SI2, h_SI3, h_SI3D, h_SI3S, h_SIl, h_Env, h_ST, h_Par, h_Ite, i_Ite, i_IteF, h_Turn, h_zE, varP_some, put_get, put_ne, put_next, new_get, new_ne, new_at, new_next, b_add, b_sub, b_mul, b_div, b_mod, b_addS, b_addT, c_lt, c_le, c_gt, c_ge, c_is, c_isn, eq_int, eq_str, eq_bl, eq_si, eq_is, eq_nn, eq_ni, eq_in, eq_ref, nodL_l, nodL_f, eqN_s, eqLs_ints, eqLs_ints0, eqLs_nn, eqLs_c0, i_str, s_tup, s_str, at_nat, ix_nat, at_last', implies_true, not_true_eq_false, not_false_eq_true, Int.toNat_zero, Int.toNat_one, Int.reduceToNat, List.length_cons, List.length_nil, List.length_map, List.length_append, List.length_set, List.eraseIdx_cons_zero, f_lenT, f_lenS, f_listT, f_intI, f_intD, f_minI, f_maxI, f_str, kd_ref, kd_str', kdP_lst, kdP_dct, fitK, isi_non, isi_int, isi_bl, isi_str, isi_tup, isi_ref, isiN_l, isiN_f, isiN_d, tyI, tyB, tySt, tyT, tyL, isN, h_Pur, pT_t, pT_f, isQ_i, wipe_nil, wipe_cons, new_put, put_put, Int.toNat_natCast, val_same, cut2_1, fld, putf, if_true, if_false, eq_self, take_one, take_tup, setAll_nil, setAll_cons, List.getElem?_cons_zero, List.getElem?_cons_succ, List.set_cons_zero, List.set_cons_succ, List.map_cons, List.map_nil, List.cons_append, List.nil_append, decide_eq_true_eq, Bool.false_eq_true, true_and, and_true, Bool.not_true, Bool.not_false, Bool.not_eq_true', decide_eq_false_iff_not, reduceCtorEq])
theorem chs_len : ∀ (hs : List Int) (n : Nat), (chs hs n).length ≤ 2 ^ hs.length
  | [], 0 => by simp [chs]
  | h :: t, 0 => by
    have : 0 < 2 ^ (h :: t).length := Nat.pow_pos (by omega)
    simp only [chs, List.length_singleton]; exact this
  | [], n + 1 => by simp [chs]
  | h :: t, n + 1 => by
    have h1 := chs_len t n
    have h2 := chs_len t (n + 1)
    simp only [chs, List.length_append, List.length_map, List.length_cons, Nat.pow_succ]; omega
/-- lists of numbers that lie at some places -/
def LLs (S : Sto) (lo : Nat) (as : List Nat) (cs : List (List Int)) : Prop := as.length = cs.length ∧ ∀ (j a : Nat) (M : List Int), as[j]? = some a → cs[j]? = some M → S.get a = some (.lst (M.map W.int)) ∧ lo ≤ a ∧ a < S.next
theorem LLs.fr {S S' : Sto} {lo : Nat} {as : List Nat} {cs : List (List Int)} {A : List Nat} (h : LLs S lo as cs) (f : Fr A S S') (hA : ∀ x ∈ A, x < lo) : LLs S' lo as cs := ⟨h.1, fun j a M e1 e2 => by
  obtain ⟨g1, g2, g3⟩ := h.2 j a M e1 e2
  exact ⟨(f.eq a g3 fun m => by have := hA a m; omega).trans g1, g2, Nat.lt_of_lt_of_le g3 f.le⟩⟩
theorem LLs.lo {S : Sto} {lo lo' : Nat} {as : List Nat} {cs : List (List Int)} (h : LLs S lo as cs) (l : lo' ≤ lo) : LLs S lo' as cs := ⟨h.1, fun j a M e1 e2 => by
  obtain ⟨g1, g2, g3⟩ := h.2 j a M e1 e2
  exact ⟨g1, Nat.le_trans l g2, g3⟩⟩
theorem LLs.nil {S : Sto} {lo : Nat} : LLs S lo [] [] := ⟨rfl, fun j a M e => by cases e⟩
theorem LLs.app {S : Sto} {lo : Nat} {as bs : List Nat} {cs ds : List (List Int)} (h : LLs S lo as cs) (g : LLs S lo bs ds) : LLs S lo (as ++ bs) (cs ++ ds) := by
  refine ⟨by rw [List.length_append, List.length_append, h.1, g.1], fun j a M e1 e2 => ?_⟩
  by_cases q : j < as.length
  · rw [List.getElem?_append_left q] at e1
    rw [List.getElem?_append_left (by rw [← h.1]; exact q)] at e2
    exact h.2 j a M e1 e2
  · rw [List.getElem?_append_right (by omega)] at e1
    rw [List.getElem?_append_right (by rw [← h.1]; omega), ← h.1] at e2
    exact g.2 _ a M e1 e2
theorem LLs.one {S : Sto} {lo a : Nat} {M : List Int} (h : S.get a = some (.lst (M.map W.int))) (l : lo ≤ a) (g : a < S.next) : LLs S lo [a] [M] := ⟨rfl, fun j b N e1 e2 => by
  have : j = 0 := by
    have : j < [a].length := by
      rcases Nat.lt_or_ge j [a].length with q | q
      · exact q
      · rw [List.getElem?_eq_none q] at e1; cases e1
    simpa using this
  subst this
  cases e1; cases e2
  exact ⟨h, l, g⟩⟩
def chQ (cs : List (List Int)) (S : Sto) : PQ := fun v S' => ∃ c as, v = .ref c ∧ S.next ≤ c ∧ c < S'.next ∧ S'.get c = some (.lst (as.map .ref)) ∧ LLs S' S.next as cs ∧ Fr [] S S'
theorem chs_drop {hs : List Int} {m k : Nat} {h : Int} (e : hs[k]? = some h) : chs (hs.drop k) (m + 1) = (chs (hs.drop (k + 1)) m).map (h :: ·) ++ chs (hs.drop (k + 1)) (m + 1) := by
  rw [drop_at e]; rfl
def chJ (hs : List Int) (m n : Nat) (S : Sto) (i : Nat) : PN := fun σ S' => ∃ as o3 o4, σ = [some (.ref n), some (.int ((m + 1 : Nat) : Int)), some (.ref S.next), o3, o4] ∧ S'.get S.next = some (.lst (as.map .ref)) ∧ S.next < S'.next ∧ Fr [] S S' ∧ ∃ cs, LLs S' (S.next + 1) as cs ∧ cs ++ chs (hs.drop i) (m + 1) = chs hs (m + 1)
theorem choices_ok {T : Tab} (hT : T (.fn .n_law_choices) = some b_law_choices) : ∀ (m : Nat) {k n : Nat} {hs : List Int} {S : Sto} {Z : PZ}, m ≤ 12 → S.get n = some (.lst (hs.map .int)) → n < S.next → hs.length ≤ 6 →
    (run T (k + m + 1) (.fn .n_law_choices) [.ref n, .int m] S).wp (chQ (chs hs m) S) Z
  | 0, k, n, hs, S, Z, hm, hn, ln, hl => by
    refine run_q hT rfl ?_
    show (exec (run T k) b_law_choices.body [some (.ref n), some (.int 0), none, none, none] S).wp _ _ _
    unfold b_law_choices
    dsimp only
    x_go
    have e : chs hs 0 = [[]] := by cases hs <;> rfl
    rw [e]
    have g : ((S.new (.lst [])).new (.lst [.ref S.next])).get S.next = some (.lst (([] : List Int).map .int)) := by rw [new_ne (by simp only [new_next]; omega)]; exact new_get
    exact ⟨_, [S.next], rfl, Nat.le_succ _, Nat.lt_succ_self _, new_get, LLs.one g (Nat.le_refl _) (by simp only [new_next]; omega), Fr.refl.nw.nw⟩
  | m + 1, k, n, hs, S, Z, hm, hn, ln, hl => by
    have hlim : lim = 16000000 := rfl
    refine run_q hT rfl ?_
    show (exec (run T (k + m + 1)) b_law_choices.body [some (.ref n), some (.int ((m + 1 : Nat) : Int)), none, none, none] S).wp _ _ _
    unfold b_law_choices
    dsimp only
    x_go
    refine sel_i (fun h => absurd h (by omega)) (fun h => ?_)
    x_go
    have f0 : Fr [] S (S.new (.lst [])) := Fr.refl.nw
    have hF0 : (S.new (.lst [])).get S.next = some (.lst []) := new_get
    have nn0 : S.next < (S.new (.lst [])).next := Nat.lt_succ_self _
    generalize S.new (.lst []) = S0 at f0 hF0 nn0
    have hn0 := (f0.eq n ln (by simp)).trans hn
    refine y_forT ?_
    x_go
    refine ⟨by omega, ?_⟩
    refine forT_rng0 (chJ hs m n S)
      ⟨[], none, none, rfl, hF0, nn0, f0, [], LLs.nil, rfl⟩ (fun i σ S' hi ⟨as, o3, o4, e, hF, lF, fr, cs, ll, hc⟩ => ?_) (fun σ S' ⟨as, o3, o4, e, hF, lF, fr, cs, ll, hc⟩ => ?_)
    · subst e
      have hi : i < hs.length := by omega
      have hz : hs[i]? = some hs[i] := List.getElem?_eq_getElem hi
      generalize hs[i] = z at hz
      have hw : (hs.map W.int)[i]? = some (.int z) := by rw [List.getElem?_map, hz]; rfl
      have hn1 := (fr.eq n ln (by simp)).trans hn
      have ln1 := Nat.lt_of_lt_of_le ln fr.le
      have e1 : ((m + 1 : Nat) : Int) - 1 = (m : Int) := by omega
      rw [chs_drop hz] at hc
      clear hn hF0 hn0
      x_go
      refine y_lc ?_
      x_go
      have f1 : Fr [] S' (S'.new (.lst ((hs.drop (i + 1)).map .int))) := Fr.refl.nw
      have g1 : (S'.new (.lst ((hs.drop (i + 1)).map .int))).get S'.next = some (.lst ((hs.drop (i + 1)).map .int)) := new_get
      have l1 : S'.next < (S'.new (.lst ((hs.drop (i + 1)).map .int))).next := Nat.lt_succ_self _
      generalize S'.new (.lst ((hs.drop (i + 1)).map .int)) = S1 at f1 g1 l1
      refine R.wp_mono (choices_ok hT m (by omega) g1 l1 (by rw [List.length_drop]; omega)) (fun v S2 ⟨c, bs, ev, c1, c2, c3, ll2, f2⟩ => ?_) (fun _ _ z => z)
      subst ev
      have f12 := f1.trans f2 (fun _ _ hx => hx)
      have lb := ll2.1
      have lm := chs_len (hs.drop (i + 1)) m
      have l64 : 2 ^ (hs.drop (i + 1)).length ≤ 2 ^ 6 := Nat.pow_le_pow_right (by omega) (by rw [List.length_drop]; omega)
      generalize hcs : chs (hs.drop (i + 1)) m = ds at *
      have l12 : S'.next ≤ S2.next := f12.le
      refine lc_list_inv' (isDct_out (by omega)) (vs := bs.map .ref) (fun j acc S3 => ∃ as2, acc = as2.map .ref ∧ LLs S3 (S2.next + 1) as2 ((ds.take j).map (z :: ·)) ∧ Fr [] S2 S3 ∧ S2.next < S3.next)
        (by rw [List.length_map]; omega) (by rw [c3]; rfl) (fun j acc S3 ⟨_, _, _, f3, _⟩ => by rw [f3.eq c c2 (by simp), c3]; rfl) ⟨[], rfl, by simp [LLs.nil], Fr.refl.nw, Nat.lt_succ_self _⟩ (fun j x acc S3 hx ha hD ⟨as2, ea, ll3, f3, l3⟩ => ?_) (fun acc S3 ha hD ⟨as2, ea, ll3, f3, l3⟩ => ?_)
      · subst ea
        rw [List.getElem?_map] at hx
        cases eb : bs[j]? with
        | none => rw [eb] at hx; cases hx
        | some b =>
          rw [eb] at hx
          cases hx
          have hj : j < ds.length := by
            rw [← lb]
            rcases Nat.lt_or_ge j bs.length with q | q
            · exact q
            · rw [List.getElem?_eq_none q] at eb; cases eb
          have ed : ds[j]? = some ds[j] := List.getElem?_eq_getElem hj
          generalize ds[j] = M at ed
          obtain ⟨q1, q2, q3⟩ := ll2.2 j b M eb ed
          have hn3 := ((f12.trans f3 (fun _ _ hx => hx)).eq n ln1 (by simp)).trans hn1
          have hb3 := (f3.eq b q3 (by simp)).trans q1
          have lb3 := Nat.lt_of_lt_of_le q3 f3.le
          have ln3 : n < S3.next := by have := f3.le; omega
          have lM : M.length ≤ 16 := by
            have := (mem_chs (hs := hs.drop (i + 1)) (n := m) (M := M)).mp (hcs ▸ List.mem_of_getElem? ed)
            have := this.2; omega
          have ml : ([W.int z] ++ M.map W.int) = (z :: M).map .int := rfl
          x_go
          refine ⟨by omega, ?_⟩
          refine ⟨as2 ++ [S3.next + 1], by simp, ?_, ?_, by omega⟩
          · have f4 : Fr [S2.next] S3 (((S3.new (Nd.lst [W.int z])).new (Nd.lst (W.int z :: List.map W.int M))).put S2.next (Nd.lst (List.map W.ref as2 ++ [W.ref (S3.next + 1)]))) := by
              refine ⟨by simp only [put_next, new_next]; omega, fun q hq hx => ?_⟩
              rw [put_ne (by simpa using hx), new_ne (by simp only [new_next]; omega), new_ne hq]
            rw [List.take_succ, ed, Option.toList_some, List.map_append]
            refine (ll3.fr f4 (by simp)).app (LLs.one (M := z :: M) ?_ (by omega) (by simp only [put_next, new_next]; omega))
            rw [put_ne (by omega)]; exact new_get
          · refine ⟨by simp only [put_next, new_next]; omega, fun q hq hx => ?_⟩
            rw [put_ne (by omega), new_ne (by simp only [new_next]; omega), new_ne (by omega)]
            exact f3.eq q hq hx
      · subst ea
        rw [List.length_map] at ha ll3
        have e5 : ds.take bs.length = ds := by rw [lb, List.take_length]
        rw [e5] at ll3
        have f13 := f12.trans f3 (fun _ _ hx => hx)
        have hF3 := (f13.eq S.next lF (by simp)).trans hF
        have lF3 := Nat.lt_of_lt_of_le lF f13.le
        have la := ll.1
        have la2 := ll3.1
        have lc := congrArg List.length hc
        have l6 := chs_len hs (m + 1)
        have l66 : 2 ^ hs.length ≤ 2 ^ 6 := Nat.pow_le_pow_right (by omega) hl
        rw [List.length_append, List.length_append] at lc
        rw [List.length_map] at lc la2
        clear hF
        x_go
        refine ⟨by omega, as ++ as2, _, _, rfl, by rw [put_get, List.map_append], by simp only [put_next]; omega, ?_, cs ++ ds.map (z :: ·), ?_, by rw [List.append_assoc]; exact hc⟩
        · refine ⟨by have := fr.le; simp only [put_next]; omega, fun q hq hx => ?_⟩
          rw [put_ne (by omega)]
          exact (f13.eq q (Nat.lt_of_lt_of_le hq fr.le) (by simp)).trans (fr.eq q hq hx)
        · have f5 : Fr [S.next] S3 (S3.put S.next (.lst (as.map .ref ++ as2.map .ref))) := ⟨Nat.le_refl _, fun q hq hx => put_ne (by simpa using hx)⟩
          exact (((ll.fr f13 (by simp)).app (ll3.lo (by omega))).fr f5 (by simp))
    · subst e
      have e : (hs.length : Int).toNat = hs.length := by omega
      rw [e, List.drop_length] at hc
      have hc' : cs = chs hs (m + 1) := by rw [← hc]; simp [chs]
      x_go
      exact ⟨_, as, rfl, Nat.le_refl _, lF, hF, hc' ▸ ll.lo (Nat.le_succ _), fr⟩
end D
end

section
/-! The law of shares, with no program in sight: what it finds, choice by choice, is what is shared step by step. -/
namespace D
theorem sum_upd : ∀ {hs : List Int} {u : Int → Int} {h d : Int}, hs.Nodup → (h ∉ hs → (hs.map (up1 u h d)).sum = (hs.map u).sum) ∧ (h ∈ hs → (hs.map (up1 u h d)).sum = (hs.map u).sum + d)
  | [], u, h, d, _ => by simp
  | k :: t, u, h, d, nd => by
    obtain ⟨nk, nt⟩ := List.nodup_cons.mp nd
    obtain ⟨i1, i2⟩ := sum_upd (u := u) (h := h) (d := d) nt
    simp only [List.map_cons, List.sum_cons]
    by_cases e : k = h
    · subst e
      have := i1 nk
      refine ⟨fun z => absurd List.mem_cons_self z, fun _ => ?_⟩
      have : up1 u k d k = u k + d := by unfold up1; rw [if_pos rfl]
      omega
    · have eu : up1 u h d k = u k := by unfold up1; rw [if_neg e]
      rw [eu]
      refine ⟨fun z => ?_, fun z => ?_⟩
      · rw [i1 fun y => z (List.mem_cons_of_mem _ y)]
      · rw [i2 ((List.mem_cons.mp z).resolve_left fun y => e y.symm)]; omega
theorem gB_len {hs : List Int} (nd : hs.Nodup) : ∀ {r : List Int} {n : Int → Int}, (∀ k ∈ hs, 0 ≤ n k) → (hs.map n).sum = r.length → (gB hs r n).length = r.length
  | [], n, _, _ => rfl
  | o :: r, n, hn, hs' => by
    have hl : ((o :: r).length : Int) = r.length + 1 := by simp
    rw [hl] at hs'
    obtain ⟨h, m, g1, g2⟩ := pick_ex (o := o) nd hn hs'
    obtain ⟨a, ea⟩ := find_ex (p := fun h => decide (0 < n h ∧ KK hs r (up1 n h (-1)) + b01 (o = h) = KK hs (o :: r) n)) m (decide_eq_true ⟨g1, g2⟩)
    have ma := List.mem_of_find?_eq_some ea
    have pa := List.find?_some ea
    have pa := of_decide_eq_true pa
    rw [gB, ea]
    show (a :: gB hs r (up1 n a (-1))).length = _
    rw [List.length_cons, List.length_cons]
    congr 1
    refine gB_len nd (fun k mk => ?_) ?_
    · have := hn k mk
      unfold up1
      split
      · rename_i e; subst e; have := pa.1; omega
      · exact this
    · have := (sum_upd (u := n) (h := a) (d := -1) nd).2 ma
      omega
theorem kk_nn {hs r : List Int} {n : Int → Int} (hn : ∀ k ∈ hs, 0 ≤ n k) : 0 ≤ KK hs r n := by
  induction hs with
  | nil => simp [KK]
  | cons k t ih =>
    rw [kk_cons]
    have := ih fun j m => hn j (List.mem_cons_of_mem _ m)
    have := hn k List.mem_cons_self
    have := ct_nn (xs := r) (h := k)
    omega
theorem tg_nn {sh : Int} {M : List Int} {h : Int} (s : 0 ≤ sh) : 0 ≤ tg sh M h := by
  have := b01_b (p := h ∈ M)
  unfold tg; omega
def stayM (hs os : List Int) (sh : Int) (cs : List (List Int)) : Int := cs.foldl (fun a M => max a (KK hs os (tg sh M))) 0
theorem fold_max {f : List Int → Int} {v : Int} : ∀ {l : List (List Int)} {a : Int}, a ≤ v → (∀ x ∈ l, f x ≤ v) → (a = v ∨ ∃ x ∈ l, f x = v) → l.foldl (fun a x => max a (f x)) a = v
  | [], a, _, _, h => by
    rcases h with h | ⟨x, m, _⟩
    · exact h
    · simp at m
  | y :: l, a, ha, hx, h => by
    have hy := hx y List.mem_cons_self
    rw [List.foldl_cons]
    refine fold_max (by omega) (fun x m => hx x (List.mem_cons_of_mem _ m)) ?_
    rcases h with h | ⟨x, m, e⟩
    · exact .inl (by omega)
    · rcases List.mem_cons.mp m with q | q
      · subst q; exact .inl (by omega)
      · exact .inr ⟨x, q, e⟩
structure Even (hs os : List Int) (sh : Int) (ov : Nat) : Prop where
  pw : hs.Pairwise (· < ·)
  l0 : 0 < hs.length
  l6 : hs.length ≤ 6
  ol : os.length = 12
  es : 12 / (hs.length : Int) = sh
  eo : 12 % (hs.length : Int) = ov
theorem Even.mk' {hs os : List Int} (pw : hs.Pairwise (· < ·)) (l0 : 0 < hs.length) (l6 : hs.length ≤ 6) (ol : os.length = 12) : Even hs os (12 / (hs.length : Int)) (12 % (hs.length : Int)).toNat :=
  ⟨pw, l0, l6, ol, rfl, by have : 0 ≤ 12 % (hs.length : Int) := Int.emod_nonneg _ (by omega); omega⟩
theorem Even.nums {hs os : List Int} {sh : Int} {ov : Nat} (E : Even hs os sh ov) : 0 ≤ sh ∧ ov ≤ hs.length ∧ sh * hs.length + ov = 12 := by
  obtain ⟨_, l0, l6, _, es, eo⟩ := E
  have : hs.length = 1 ∨ hs.length = 2 ∨ hs.length = 3 ∨ hs.length = 4 ∨ hs.length = 5 ∨ hs.length = 6 := by omega
  rcases this with e | e | e | e | e | e <;> rw [e] at es eo ⊢ <;> simp at es eo <;> subst es <;> omega
theorem u0 {sh : Int} {M : List Int} : (fun h => tg sh M h - (fun _ => (0 : Int)) h) = tg sh M := by funext h; simp
section
variable {hs os : List Int} {sh : Int} {ov : Nat}
theorem best_ex (E : Even hs os sh ov) : ∃ v, mkept sh os (fun _ => 0) hs ov = some v ∧ stayM hs os sh (chs hs ov) = v ∧ (gA hs sh ov os (fun _ => 0) v).length = 12 ∧
    leastL (((chs hs ov).filter fun M => decide (KK hs os (tg sh M) = v)).map fun M => gB hs os (tg sh M)) = some (gA hs sh ov os (fun _ => 0) v) := by
  obtain ⟨s0, o6, e12⟩ := E.nums
  have nd : hs.Nodup := E.pw.imp fun h => by omega
  have hv : ∀ M, val sh hs M (fun _ => 0) := fun M h _ => tg_nn s0
  have hM : hs.take ov ∈ chs hs ov := mem_chs.mpr ⟨List.take_sublist _ _, by rw [List.length_take]; omega⟩
  obtain ⟨v, v1, v2⟩ := mk_ub (sh := sh) (r := os) nd hM (hv _)
  obtain ⟨M, m1, m2, m3⟩ := mk_wit nd o6 v1
  rw [u0] at m3
  have z0 : ∀ l : List Int, (l.map fun _ => (0 : Int)).sum = 0 := fun l => by
    induction l with
    | nil => rfl
    | cons a l ih => rw [List.map_cons, List.sum_cons, ih]; rfl
  have es : (hs.map fun _ => (0 : Int)).sum + os.length = sh * hs.length + ov := by rw [z0, E.ol]; omega
  obtain ⟨h1, M2, h2, h3, h4, h5⟩ := heart E.pw o6 v1 es
  rw [u0] at h4 h5
  have ub : ∀ M ∈ chs hs ov, KK hs os (tg sh M) ≤ v := fun M m => by
    obtain ⟨w, w1, w2⟩ := mk_ub (sh := sh) (r := os) nd m (hv M)
    rw [v1] at w1
    cases w1
    rw [u0] at w2
    exact w2
  refine ⟨v, v1, ?_, ?_, ?_⟩
  · exact fold_max (f := fun M => KK hs os (tg sh M)) (by rw [← m3]; exact kk_nn fun k _ => tg_nn s0) ub (.inr ⟨M, m1, m3⟩)
  · rw [← h5, gB_len nd (fun k _ => tg_nn s0), E.ol]
    obtain ⟨q1, q2⟩ := mem_chs.mp h2
    rw [sum_tg nd q1, E.ol, q2]; omega
  · refine leastL_eq ?_ fun x mx => ?_
    · exact List.mem_map.mpr ⟨M2, List.mem_filter.mpr ⟨h2, decide_eq_true h4⟩, h5⟩
    · obtain ⟨M3, mm, e⟩ := List.mem_map.mp mx
      obtain ⟨q1, q2⟩ := List.mem_filter.mp mm
      have := h1 M3 q1 (hv M3) (by rw [u0]; exact of_decide_eq_true q2)
      rw [u0, e] at this
      exact this
end
end D
end

section
/-! The law of shares: what stays, the first tuple of a choice, what is due. -/
namespace D
open PySem L2
local macro_rules | `(tactic| x_go) => `(tactic| simp (disch := first | assumption | omega | ((simp only [new_next, put_next]) <;> omega) | fail) only [*, k_SortL, cut_mid, g_sorted, map_erase, beq_self_eq_true, Bool.true_eq_false, g_ext, g_sum, k_SumI, k_SumM, g_min, k_MinI, g_max, k_MaxI, g_dictR, k_DictD, f_lrng, kd_tup', g_cntT, in_refI, inD_l, inD_d, cut_from, cut_from1, h_LcT, eq_tI, int_beq, x_nil, y_cons, x_pass, y_ex, y_set, y_setA, y_setI, y_setT, y_par, y_ite, y_ret, x_retN, x_rse, y_tri, y_forE, y_turn, e_var, e_int, e_bl, e_non, e_str, e_gi, e_gs, q_bin, q_neg, q_nt, q_and, q_or, q_cmp, q_chain, q_ife, q_call, q_new, q_meth, q_bi, q_bm, q_attr, q_ix, q_sl, q_rev, e_tup, q_lst, e_dct0, q_dctk, q_isi, q_rng1, q_rng2, e_nil, q_cons, q_kv, k_E2, k_Bin, k_Cmp, k_Ix, k_Cons, k_Rng2, k_Kv1, k_Kv, k_Neg, k_Nt, k_And, i_And, i_AndF, k_Or, i_Or, i_OrF, k_Ife, i_Ife, i_IfeF, k_Ch, k_Ch1, i_Ch, i_ChF, k_Call, k_New, k_New1, k_Me, k_Me1, k_Me2, k_Bi, k_Bm, k_Bm1, k_Bm2, k_Opt, k_Bl, k_NBl, k_At, k_At1, k_Int, k_Sl, k_Sl1, k_Sl2, ev_t, ev_f, isNo, k_Rev, k_Rev1, k_Lst, k_Dct, k_Dct1, k_Dct2, k_Isi, k_Rng1, g_eq, g_ne, g_in, g_nin, g_ixT, g_ixR, k_ItmL, k_ItmD, k_ItK, w_keyI, w_keyS, g_slR, k_Lst1, g_addL, k_AddL, g_mulL, k_MulL, g_lenR, k_LenL, k_LenF, k_LenD, g_listR, k_SeqLL, k_SeqLF, g_tupR, k_SeqTL, k_SeqTF, g_app, k_App, g_ins, k_Ins, g_clr, k_Clr, g_pop, k_PopL, k_PopD, k_Pop1, k_Pop2, k_PopD1, g_get, k_GetI, k_GetS, h_Seq, h_End, h_Drop, h_Set, h_SA, h_SA1, h_SA2, h_SI, h_SI1, h_SI2, h_SI3, h_SI3D, h_SI3S, h_SIl, h_Env, h_ST, h_Par, h_Ite, i_Ite, i_IteF, h_Turn, h_zE, varP_some, put_get, put_ne, put_next, new_get, new_ne, new_at, new_next, b_add, b_sub, b_mul, b_div, b_mod, b_addS, b_addT, c_lt, c_le, c_gt, c_ge, c_is, c_isn, eq_int, eq_str, eq_bl, eq_si, eq_is, eq_nn, eq_ni, eq_in, eq_ref, nodL_l, nodL_f, eqN_s, eqLs_ints, eqLs_ints0, eqLs_nn, eqLs_c0, i_str, s_tup, s_str, at_nat, ix_nat, at_last', implies_true, not_true_eq_false, not_false_eq_true, Int.toNat_zero, Int.toNat_one, Int.reduceToNat, List.length_cons, List.length_nil, List.length_map, List.length_append, List.length_set, List.eraseIdx_cons_zero, f_lenT, f_lenS, f_listT, f_intI, f_intD, f_minI, f_maxI, f_str, kd_ref, kd_str', kdP_lst, kdP_dct, fitK, isi_non, isi_int, isi_bl, isi_str, isi_tup, isi_ref, isiN_l, isiN_f, isiN_d, tyI, tyB, tySt, tyT, tyL, isN, h_Pur, pT_t, pT_f, isQ_i, wipe_nil, wipe_cons, new_put, put_put, Int.toNat_natCast, val_same, cut2_1, fld, putf, if_true, if_false, eq_self, take_one, take_tup, setAll_nil, setAll_cons, List.getElem?_cons_zero, List.getElem?_cons_succ, List.set_cons_zero, List.set_cons_succ, List.map_cons, List.map_nil, List.cons_append, List.nil_append, decide_eq_true_eq, Bool.false_eq_true, true_and, and_true, Bool.not_true, Bool.not_false, Bool.not_eq_true', decide_eq_false_iff_not, reduceCtorEq])
theorem kk_map {hs os : List Int} {n : Int → Int} : (hs.map fun h => min (ct os h) (n h)).sum = KK hs os n := rfl
theorem kk_tg {hs os M : List Int} {sh : Int} : (hs.map fun h => min (ct os h) (sh + b01 (h ∈ M))).sum = KK hs os (tg sh M) := rfl
def intQ (i : Int) (S : Sto) : PQ := fun v S' => v = .int i ∧ Fr [] S S'
def stI (hs os : List Int) (n : Nat) (sh : Int) (cs : List (List Int)) (S : Sto) (i : Nat) : PN := fun σ S' => ∃ o4 o5, σ = [some (.tup (os.map .int)), some (.ref n), some (.int sh), some (.int (stayM hs os sh (cs.take i))), o4, o5] ∧ Fr [] S S'
theorem stI_i {hs os : List Int} {n : Nat} {sh a : Int} {cs : List (List Int)} {S S' : Sto} {i : Nat} {o4 o5 : Option W} (e : a = stayM hs os sh (cs.take i)) (fr : Fr [] S S') : stI hs os n sh cs S i [some (.tup (os.map .int)), some (.ref n), some (.int sh), some (.int a), o4, o5] S' := ⟨o4, o5, by rw [e], fr⟩
theorem at_refs {as : List Nat} {i : Nat} {x : W} (h : (as.map W.ref)[i]? = some x) : ∃ a, as[i]? = some a ∧ x = .ref a := by
  rw [List.getElem?_map] at h
  cases e : as[i]? with
  | none => rw [e] at h; cases h
  | some a => rw [e] at h; cases h; exact ⟨a, rfl, rfl⟩
theorem lt_of_get {α : Type} {l : List α} {i : Nat} {x : α} (h : l[i]? = some x) : i < l.length := by
  rcases Nat.lt_or_ge i l.length with q | q
  · exact q
  · rw [List.getElem?_eq_none q] at h; cases h
theorem stay_ok {T : Tab} (hT : T (.fn .n_law_stay) = some b_law_stay) (hC : T (.fn .n_law_choices) = some b_law_choices) {k n : Nat} {hs os : List Int} {sh : Int} {ov : Nat} {S : Sto} {Z : PZ} (E : Even hs os sh ov) (hn : S.get n = some (.lst (hs.map .int))) (ln : n < S.next) :
    (run T (k + 14) (.fn .n_law_stay) [.tup (os.map .int), .ref n] S).wp (intQ (stayM hs os sh (chs hs ov)) S) Z := by
  have hlim : lim = 16000000 := rfl
  obtain ⟨pw, l0, l6, ol, es, eo⟩ := id E
  obtain ⟨s0, o6, e12⟩ := E.nums
  refine run_q hT rfl ?_
  show (exec (run T (k + 13)) b_law_stay.body [some (.tup (os.map .int)), some (.ref n), none, none, none, none] S).wp _ _ _
  unfold b_law_stay
  dsimp only
  x_go
  refine ⟨by omega, ?_⟩
  refine y_forL ?_
  x_go
  refine ⟨by omega, ?_⟩
  rw [show k + 13 = (k + 12 - ov) + ov + 1 by omega]
  refine R.wp_mono (choices_ok hC ov (by omega) hn ln l6) (fun v S2 ⟨c, as, ev, c1, c2, c3, ll, f2⟩ => ?_) (fun _ _ z => z)
  subst ev
  generalize chs hs ov = cs at ll
  have la := ll.1
  refine forL_list' (isDct_out c1) (vs := as.map .ref) (by rw [c3]; rfl) (stI hs os n sh cs S2) ⟨none, none, rfl, Fr.refl⟩ (fun i σ S' hi ⟨_, _, _, fr⟩ => by rw [fr.eq c c2 (by simp), c3]; rfl) (fun i x σ S' hx ⟨o4, o5, e, fr⟩ => ?_) (fun σ S' ⟨o4, o5, e, fr⟩ => ?_)
  · subst e
    obtain ⟨a, ea, ex⟩ := at_refs hx
    subst ex
    have hi : i < cs.length := by rw [← la]; exact lt_of_get ea
    have eM : cs[i]? = some cs[i] := List.getElem?_eq_getElem hi
    generalize cs[i] = M at eM
    obtain ⟨q1, q2, q3⟩ := ll.2 i a M ea eM
    have ha := (fr.eq a q3 (by simp)).trans q1
    have la3 := Nat.lt_of_lt_of_le q3 fr.le
    have hn3 := ((f2.trans fr (fun _ _ h => h)).eq n ln (by simp)).trans hn
    have ln3 : n < S'.next := Nat.lt_of_lt_of_le ln (f2.trans fr (fun _ _ h => h)).le
    clear hn
    x_go
    refine y_lc ?_
    x_go
    refine lc_all_i (l := hs) .int (fun h => .int (min (ct os h) (sh + b01 (h ∈ M)))) (by x_go) (by x_go) (by omega) (fun h acc _ => by x_go) ?_
    x_go
    refine stI_i ?_ fr.nw
    rw [List.take_succ, eM]
    unfold stayM
    rw [Option.toList_some, List.foldl_append]
    rfl
  · subst e
    have e1 : cs.take (as.map W.ref).length = cs := by rw [List.length_map, la, List.take_length]
    rw [e1]
    x_go
    exact ⟨rfl, f2.trans fr (fun _ _ h => h)⟩
/-! ### the first tuple -/
def pB (hs : List Int) (o : Int) (r : List Int) (u : Int → Int) (h : Int) : Bool := decide (0 < u h ∧ KK hs r (up1 u h (-1)) + b01 (o = h) = KK hs (o :: r) u)
theorem gB_cons {hs : List Int} {o : Int} {r : List Int} {u : Int → Int} : gB hs (o :: r) u = match hs.find? (pB hs o r u) with
    | some h => h :: gB hs r (up1 u h (-1))
    | none => [] := rfl
theorem kv_dn {hs : List Int} {u : Int → Int} {h : Int} (m : h ∈ hs) : putW (kv hs u) (.inl h) (.int (u h - 1)) = kv hs (up1 u h (-1)) := kv_up (d := -1) m
theorem kv_back' {hs : List Int} {u : Int → Int} {h : Int} (m : h ∈ hs) : putW (kv hs (up1 u h (-1))) (.inl h) (.int (u h + -1 + 1)) = kv hs u := by
  rw [kv_put m]
  refine kv_congr fun k _ => ?_
  unfold up1
  split
  · rename_i e; rw [e]; omega
  · rfl
/-- what the search holds -/
structure FB (S S' : Sto) (n D : Nat) (hs : List Int) (u : Int → Int) : Prop where
  hn : S'.get n = some (.lst (hs.map .int))
  hD : S'.get D = some (.dct false (kv hs u))
  ln : n < S'.next
  lD : D < S'.next
  oD : S.next ≤ D
  ne : n ≠ D
  fr : Fr [] S S'
theorem FB.nw {S S' : Sto} {n D : Nat} {hs : List Int} {u : Int → Int} {d : Nd} (b : FB S S' n D hs u) : FB S (S'.new d) n D hs u :=
  ⟨(new_ne b.ln).trans b.hn, (new_ne b.lD).trans b.hD, Nat.lt_succ_of_lt b.ln, Nat.lt_succ_of_lt b.lD, b.oD, b.ne, b.fr.nw⟩
theorem FB.putD {S S' : Sto} {n D : Nat} {hs : List Int} {u v : Int → Int} (b : FB S S' n D hs u) : FB S (S'.put D (.dct false (kv hs v))) n D hs v := by
  obtain ⟨hn, hD, ln, lD, oD, ne, fr⟩ := b
  refine ⟨by x_go, by x_go, ln, lD, oD, ne, fr.le, fun m hm hx => ?_⟩
  rw [put_ne (by omega)]; exact fr.eq m hm hx
def fbI (os hs : List Int) (n D : Nat) (u0 : Int → Int) (S : Sto) (i : Nat) : PN := fun σ S' => ∃ u p o4 o5 o6 o7 o8 o9, σ = [some (.tup (os.map .int)), some (.ref n), some (.ref D), some (.tup (p.map .int)), o4, o5, o6, o7, o8, o9] ∧ FB S S' n D hs u ∧ p.length = i ∧ p ++ gB hs (os.drop i) u = gB hs os u0
theorem fbI_i {os hs : List Int} {n D : Nat} {u0 u : Int → Int} {S S' : Sto} {i : Nat} {p : List Int} {o4 o5 o6 o7 o8 o9 : Option W} (b : FB S S' n D hs u) (hp : p.length = i) (hG : p ++ gB hs (os.drop i) u = gB hs os u0) :
    fbI os hs n D u0 S i [some (.tup (os.map .int)), some (.ref n), some (.ref D), some (.tup (p.map .int)), o4, o5, o6, o7, o8, o9] S' := ⟨u, p, o4, o5, o6, o7, o8, o9, rfl, b, hp, hG⟩
def fbJ (os hs : List Int) (n D : Nat) (S : Sto) (i : Nat) (o here : Int) (u : Int → Int) (p : List Int) (j : Nat) : PN := fun σ S' => ∃ o7 o8 o9, match (hs.take j).find? (pB hs o (os.drop (i + 1)) u) with
  | none => σ = [some (.tup (os.map .int)), some (.ref n), some (.ref D), some (.tup (p.map .int)), some (.int i), some (.tup ((os.drop (i + 1)).map .int)), some (.int here), o7, o8, o9] ∧ FB S S' n D hs u
  | some h => σ = [some (.tup (os.map .int)), some (.ref n), some (.ref D), some (.tup ((p ++ [h]).map .int)), some (.int i), some (.tup ((os.drop (i + 1)).map .int)), some (.int here), o7, o8, o9] ∧ FB S S' n D hs (up1 u h (-1))
theorem fbJ_n {os hs : List Int} {n D : Nat} {S S' : Sto} {i j : Nat} {o here : Int} {u : Int → Int} {p : List Int} {o7 o8 o9 : Option W} (e : (hs.take j).find? (pB hs o (os.drop (i + 1)) u) = none) (b : FB S S' n D hs u) :
    fbJ os hs n D S i o here u p j [some (.tup (os.map .int)), some (.ref n), some (.ref D), some (.tup (p.map .int)), some (.int i), some (.tup ((os.drop (i + 1)).map .int)), some (.int here), o7, o8, o9] S' := ⟨o7, o8, o9, by rw [e]; exact ⟨rfl, b⟩⟩
theorem fbJ_s {os hs : List Int} {n D : Nat} {S S' : Sto} {i j : Nat} {o here h : Int} {u : Int → Int} {p : List Int} {q : List W} {o7 o8 o9 : Option W} (e : (hs.take j).find? (pB hs o (os.drop (i + 1)) u) = some h) (eq : q = (p ++ [h]).map .int) (b : FB S S' n D hs (up1 u h (-1))) :
    fbJ os hs n D S i o here u p j [some (.tup (os.map .int)), some (.ref n), some (.ref D), some (.tup q), some (.int i), some (.tup ((os.drop (i + 1)).map .int)), some (.int here), o7, o8, o9] S' := ⟨o7, o8, o9, by rw [e, eq]; exact ⟨rfl, b⟩⟩
theorem first_ok {T : Tab} (hT : T (.fn .n_law_first) = some b_law_first) {k n d : Nat} {hs os : List Int} {u0 : Int → Int} {S : Sto} {Z : PZ} (hn : S.get n = some (.lst (hs.map .int))) (ln : n < S.next) (hd : S.get d = some (.dct false (kv hs u0))) (ld : d < S.next) (l6 : hs.length ≤ 6) (ol : os.length = 12) (hg : (gB hs os u0).length = 12) :
    (run T (k + 1) (.fn .n_law_first) [.tup (os.map .int), .ref n, .ref d] S).wp (tupQ (gB hs os u0) S) Z := by
  have hlim : lim = 16000000 := rfl
  refine run_q hT rfl ?_
  show (exec (run T k) b_law_first.body [some (.tup (os.map .int)), some (.ref n), some (.ref d), none, none, none, none, none, none, none] S).wp _ _ _
  unfold b_law_first
  dsimp only
  x_go
  have b0 : FB S (S.new (.dct false (kv hs u0))) n S.next hs u0 := ⟨by x_go, new_get, Nat.lt_succ_of_lt ln, Nat.lt_succ_self _, Nat.le_refl _, by omega, Fr.refl.nw⟩
  generalize S.new (.dct false (kv hs u0)) = S1 at b0
  generalize S.next = D at b0
  clear hn hd
  refine y_forT ?_
  x_go
  refine ⟨by omega, ?_⟩
  refine forT_rng0 (fbI os hs n D u0 S) (fbI_i (p := []) b0 rfl rfl) (fun i σ S' hi ⟨u, p, o4, o5, o6, o7, o8, o9, e, b, hp, hG⟩ => ?_) (fun σ S' ⟨u, p, o4, o5, o6, o7, o8, o9, e, b, hp, hG⟩ => ?_)
  · subst e
    have hi' : i < os.length := by omega
    have ho : os[i]? = some os[i] := List.getElem?_eq_getElem hi'
    generalize os[i] = o at ho
    have hwo : (os.map W.int)[i]? = some (.int o) := by rw [List.getElem?_map, ho]; rfl
    have hnx : ∃ h, hs.find? (pB hs o (os.drop (i + 1)) u) = some h := by
      rw [drop_at ho, gB_cons] at hG
      cases e : hs.find? (pB hs o (os.drop (i + 1)) u) with
      | some h => exact ⟨h, rfl⟩
      | none =>
        rw [e] at hG
        have := congrArg List.length hG
        simp only [List.append_nil] at this
        omega
    obtain ⟨hx, ex⟩ := hnx
    have hn1 := b.hn
    have hD1 := b.hD
    have ln1 := b.ln
    have lD1 := b.lD
    x_go
    refine y_lc ?_
    x_go
    refine lc_all_i (l := hs) .int (fun h => .int (min (ct (os.drop i) h) (u h))) (by x_go) (by x_go) (by omega) (fun h acc mh => by have := kv_val (u := u) mh; x_go) ?_
    have ekk := kk_map (hs := hs) (os := os.drop i) (n := u)
    x_go
    have b1 := b.nw (d := .lst (hs.map fun h => .int (min (ct (os.drop i) h) (u h))))
    generalize S'.new (.lst (hs.map fun h => .int (min (ct (os.drop i) h) (u h)))) = S2 at b1
    clear hn1 hD1 ln1 lD1 b ekk
    refine y_forL ?_
    have hn1 := b1.hn
    x_go
    refine forL_ints (ns := hs) (by x_go) (fbJ os hs n D S i o (KK hs (os.drop i) u) u p) (fbJ_n (by simp) b1) (fun j σ S' hj ⟨o7, o8, o9, h⟩ => ?_) (fun j z σ S' hz ⟨o7, o8, o9, h⟩ => ?_) (fun σ S' ⟨o7, o8, o9, h⟩ => ?_)
    · cases e : (hs.take j).find? (pB hs o (os.drop (i + 1)) u) with
      | none => rw [e] at h; rw [h.2.hn]; rfl
      | some a => rw [e] at h; rw [h.2.hn]; rfl
    · clear hn1 b1
      have mz : z ∈ hs := List.mem_of_getElem? hz
      have nxt := find_take (p := pB hs o (os.drop (i + 1)) u) hz
      cases e : (hs.take j).find? (pB hs o (os.drop (i + 1)) u) with
      | some a =>
        rw [e] at h nxt
        obtain ⟨eσ, b⟩ := h
        subst eσ
        x_go
        refine sel_i (fun hq => absurd hq (by omega)) (fun _ => ?_)
        x_go
        exact fbJ_s nxt rfl b
      | none =>
        rw [e] at h nxt
        obtain ⟨eσ, b⟩ := h
        subst eσ
        have hDD := b.hD
        have hnn := b.hn
        have hln := b.ln
        have hlD := b.lD
        have hq : (p.length : Int) = (i : Int) := by omega
        have v1 := kv_val (u := u) mz
        have v2 := kv_dn (u := u) mz
        have v3 := kv_val (u := up1 u z (-1)) mz
        rw [up1_own] at v3
        have v4 := kv_back' (u := u) mz
        x_go
        refine sel_i (fun h1 => ?_) (fun h1 => ?_)
        · x_go
          refine ⟨by rw [kv_len]; omega, ?_⟩
          have b1 := b.putD (v := up1 u z (-1))
          generalize S'.put D (.dct false (kv hs (up1 u z (-1)))) = S4 at b1
          clear hDD hnn hln hlD b
          have hDD := b1.hD
          have hnn := b1.hn
          have hln := b1.ln
          have hlD := b1.lD
          refine y_lc ?_
          x_go
          refine lc_all_i (l := hs) .int (fun h => .int (min (ct (os.drop (i + 1)) h) (up1 u z (-1) h))) (by x_go) (by x_go) (by omega) (fun h acc mh => by have := kv_val (u := up1 u z (-1)) mh; x_go) ?_
          have ekk := kk_map (hs := hs) (os := os.drop (i + 1)) (n := up1 u z (-1))
          have b2 := b1.nw (d := .lst (hs.map fun h => .int (min (ct (os.drop (i + 1)) h) (up1 u z (-1) h))))
          x_go
          generalize S4.new (.lst (hs.map fun h => .int (min (ct (os.drop (i + 1)) h) (up1 u z (-1) h)))) = S5 at b2
          clear hDD hnn hln hlD b1
          have hDD := b2.hD
          refine sel_i (fun h2 => ?_) (fun h2 => ?_)
          · have ep : pB hs o (os.drop (i + 1)) u z = true := decide_eq_true ⟨h1, by rw [← drop_at ho]; exact h2⟩
            rw [ep] at nxt
            x_go
            exact ⟨by omega, fbJ_s nxt (by simp) b2⟩
          · have ep : pB hs o (os.drop (i + 1)) u z = false := decide_eq_false fun q => h2 (by rw [drop_at ho]; exact q.2)
            rw [ep] at nxt
            x_go
            exact ⟨by rw [kv_len]; omega, fbJ_n nxt b2.putD⟩
        · have ep : pB hs o (os.drop (i + 1)) u z = false := decide_eq_false fun q => h1 q.1
          rw [ep] at nxt
          x_go
          exact fbJ_n nxt b
    · rw [List.take_length, ex] at h
      obtain ⟨eσ, b'⟩ := h
      subst eσ
      refine fbI_i b' (by simp [hp]) ?_
      rw [← hG, drop_at ho, gB_cons, ex]
      simp
  · subst e
    have e12 : (12 : Int).toNat = os.length := by omega
    rw [e12, List.drop_length] at hG
    have hG' : p = gB hs os u0 := by rw [← hG]; simp [gB]
    x_go
    exact ⟨rfl, b.fr⟩
end D
end

section
/-! The law of shares: what is due. -/
namespace D
open PySem L2
local macro_rules | `(tactic| x_go) => `(tactic| simp (disch := first | assumption | omega | ((simp only [new_next, put_next]) <;> omega) | fail) only [*, k_SortL, cut_mid, g_sorted, map_erase, beq_self_eq_true, Bool.true_eq_false, g_ext, g_sum, k_SumI, k_SumM, g_min, k_MinI, g_max, k_MaxI, g_dictR, k_DictD, f_lrng, kd_tup', g_cntT, in_refI, inD_l, inD_d, cut_from, cut_from1, h_LcT, eq_tI, int_beq, x_nil, y_cons, x_pass, y_ex, y_set, y_setA, y_setI, y_setT, y_par, y_ite, y_ret, x_retN, x_rse, y_tri, y_forE, y_turn, e_var, e_int, e_bl, e_non, e_str, e_gi, e_gs, q_bin, q_neg, q_nt, q_and, q_or, q_cmp, q_chain, q_ife, q_call, q_new, q_meth, q_bi, q_bm, q_attr, q_ix, q_sl, q_rev, e_tup, q_lst, e_dct0, q_dctk, q_isi, q_rng1, q_rng2, e_nil, q_cons, q_kv, k_E2, k_Bin, k_Cmp, k_Ix, k_Cons, k_Rng2, k_Kv1, k_Kv, k_Neg, k_Nt, k_And, i_And, i_AndF, k_Or, i_Or, i_OrF, k_Ife, i_Ife, i_IfeF, k_Ch, k_Ch1, i_Ch, i_ChF, k_Call, k_New, k_New1, k_Me, k_Me1, k_Me2, k_Bi, k_Bm, k_Bm1, k_Bm2, k_Opt, k_Bl, k_NBl, k_At, k_At1, k_Int, k_Sl, k_Sl1, k_Sl2, ev_t, ev_f, isNo, k_Rev, k_Rev1, k_Lst, k_Dct, k_Dct1, k_Dct2, k_Isi, k_Rng1, g_eq, g_ne, g_in, g_nin, g_ixT, g_ixR, k_ItmL, k_ItmD, k_ItK, w_keyI, w_keyS, g_slR, k_Lst1, g_addL, k_AddL, g_mulL, k_MulL, g_lenR, k_LenL, k_LenF, k_LenD, g_listR, k_SeqLL, k_SeqLF, g_tupR, k_SeqTL, k_SeqTF, g_app, k_App, g_ins, k_Ins, g_clr, k_Clr, g_pop, k_PopL, k_PopD, k_Pop1, k_Pop2, k_PopD1, g_get, k_GetI, k_GetS, h_Seq, h_End, h_Drop, h_Set, h_SA, h_SA1, h_SA2, h_SI, h_SI1, h_SI2, h_SI3, h_SI3D, h_SI3S, h_SIl, h_Env, h_ST, h_Par, h_Ite, i_Ite, i_IteF, h_Turn, h_zE, varP_some, put_get, put_ne, put_next, new_get, new_ne, new_at, new_next, b_add, b_sub, b_mul, b_div, b_mod, b_addS, b_addT, c_lt, c_le, c_gt, c_ge, c_is, c_isn, eq_int, eq_str, eq_bl, eq_si, eq_is, eq_nn, eq_ni, eq_in, eq_ref, nodL_l, nodL_f, eqN_s, eqLs_ints, eqLs_ints0, eqLs_nn, eqLs_c0, i_str, s_tup, s_str, at_nat, ix_nat, at_last', implies_true, not_true_eq_false, not_false_eq_true, Int.toNat_zero, Int.toNat_one, Int.reduceToNat, List.length_cons, List.length_nil, List.length_map, List.length_append, List.length_set, List.eraseIdx_cons_zero, f_lenT, f_lenS, f_listT, f_intI, f_intD, f_minI, f_maxI, f_str, kd_ref, kd_str', kdP_lst, kdP_dct, fitK, isi_non, isi_int, isi_bl, isi_str, isi_tup, isi_ref, isiN_l, isiN_f, isiN_d, tyI, tyB, tySt, tyT, tyL, isN, h_Pur, pT_t, pT_f, isQ_i, wipe_nil, wipe_cons, new_put, put_put, Int.toNat_natCast, val_same, cut2_1, fld, putf, if_true, if_false, eq_self, take_one, take_tup, setAll_nil, setAll_cons, List.getElem?_cons_zero, List.getElem?_cons_succ, List.set_cons_zero, List.set_cons_succ, List.map_cons, List.map_nil, List.cons_append, List.nil_append, decide_eq_true_eq, Bool.false_eq_true, true_and, and_true, Bool.not_true, Bool.not_false, Bool.not_eq_true', decide_eq_false_iff_not, reduceCtorEq])
def tupsW (ts : List (List Int)) : List W := ts.map fun t => W.tup (t.map .int)
def duI (hs os : List Int) (n F : Nat) (sh v : Int) (cs : List (List Int)) (S : Sto) (i : Nat) : PN := fun σ S' => ∃ o5 o6 o7, σ = [some (.tup (os.map .int)), some (.ref n), some (.int v), some (.int sh), some (.ref F), o5, o6, o7] ∧
  S'.get F = some (.lst (tupsW (((cs.take i).filter fun M => decide (KK hs os (tg sh M) = v)).map fun M => gB hs os (tg sh M)))) ∧ Fr [F] S S'
theorem duI_i {hs os : List Int} {n F : Nat} {sh v : Int} {cs : List (List Int)} {S S' : Sto} {i : Nat} {o5 o6 o7 : Option W} (h : S'.get F = some (.lst (tupsW (((cs.take i).filter fun M => decide (KK hs os (tg sh M) = v)).map fun M => gB hs os (tg sh M))))) (f : Fr [F] S S') :
    duI hs os n F sh v cs S i [some (.tup (os.map .int)), some (.ref n), some (.int v), some (.int sh), some (.ref F), o5, o6, o7] S' := ⟨o5, o6, o7, rfl, h, f⟩
theorem Fr.nwA {A : List Nat} {S S' : Sto} {d : Nd} (h : Fr A S S') : Fr A S (S'.new d) := h.trans (B := []) ⟨Nat.le_succ _, fun m hm _ => new_ne hm⟩ (fun _ _ hx => by simp at hx)
theorem Fr.sub {A : List Nat} {S S' S2 : Sto} (h : Fr A S S') (g : Fr [] S' S2) : Fr A S S2 := h.trans g (fun _ _ hx => by simp at hx)
theorem due2_ok {T : Tab} (hT : T (.fn .n_law_shared) = some b_law_shared) (hC : T (.fn .n_law_choices) = some b_law_choices) (hS : T (.fn .n_law_stay) = some b_law_stay) (hF : T (.fn .n_law_first) = some b_law_first) {k n : Nat} {hs os : List Int} {sh v : Int} {ov : Nat} {S : Sto} {Z : PZ} (E : Even hs os sh ov) (hn : S.get n = some (.lst (hs.map .int))) (ln : n < S.next)
    (hst : stayM hs os sh (chs hs ov) = v) {g : List Int} (hle : leastL (((chs hs ov).filter fun M => decide (KK hs os (tg sh M) = v)).map fun M => gB hs os (tg sh M)) = some g) :
    (run T (k + 15) (.fn .n_law_shared) [.tup (os.map .int), .ref n] S).wp (tupQ g S) Z := by
  have hlim : lim = 16000000 := rfl
  obtain ⟨pw, l0, l6, ol, es, eo⟩ := id E
  obtain ⟨s0, o6, e12⟩ := E.nums
  have nd : hs.Nodup := pw.imp fun h => by omega
  have lcs : (chs hs ov).length ≤ 64 := by
    have h1 := chs_len hs ov
    have h2 : 2 ^ hs.length ≤ 2 ^ 6 := Nat.pow_le_pow_right (by omega) l6
    omega
  have hg0 : ∀ M ∈ chs hs ov, (gB hs os (tg sh M)).length = 12 := fun M m => by
    obtain ⟨q1, q2⟩ := mem_chs.mp m
    rw [gB_len nd (fun k _ => tg_nn s0) (by rw [sum_tg nd q1, ol, q2]; omega), ol]
  refine run_q hT rfl ?_
  show (exec (run T (k + 14)) b_law_shared.body [some (.tup (os.map .int)), some (.ref n), none, none, none, none, none, none] S).wp _ _ _
  unfold b_law_shared
  dsimp only
  x_go
  refine R.wp_mono (stay_ok hS hC E hn ln) (fun w S1 ⟨ev, f1⟩ => ?_) (fun _ _ z => z)
  subst ev
  rw [hst]
  have hn1 := (f1.eq n ln (by simp)).trans hn
  have ln1 := Nat.lt_of_lt_of_le ln f1.le
  clear hn
  x_go
  refine ⟨by omega, ?_⟩
  have f2 : Fr [] S (S1.new (.lst [])) := f1.nw
  have hF2 : (S1.new (.lst [])).get S1.next = some (.lst (tupsW [])) := new_get
  have hn2 : (S1.new (.lst [])).get n = some (.lst (hs.map .int)) := (new_ne ln1).trans hn1
  have lF2 : S1.next < (S1.new (.lst [])).next := Nat.lt_succ_self _
  have oF : S.next ≤ S1.next := f1.le
  generalize S1.new (.lst []) = S2 at f2 hF2 hn2 lF2
  generalize S1.next = F at *
  clear hn1
  have ln2 : n < S2.next := by omega
  refine y_forL ?_
  x_go
  refine ⟨by omega, ?_⟩
  have hch := fun Z => choices_ok hC ov (k := k + 13 - ov) (Z := Z) (by omega) hn2 ln2 l6
  rw [show k + 13 - ov + ov + 1 = k + 14 by omega] at hch
  refine R.wp_mono (hch _) (fun w S3 ⟨c, as, ev, c1, c2, c3, ll, f3⟩ => ?_) (fun _ _ z => z)
  subst ev
  have hF3 := (f3.eq F lF2 (by simp)).trans hF2
  have hn3 := (f3.eq n ln2 (by simp)).trans hn2
  generalize hcs : chs hs ov = cs at *
  have la := ll.1
  have f23 := f2.trans f3 (fun _ _ h => h)
  refine forL_list' (isDct_out c1) (vs := as.map .ref) (by rw [c3]; rfl) (duI hs os n F sh v cs S3) (duI_i (by simpa using hF3) Fr.refl) (fun i σ S' hi ⟨_, _, _, _, _, fr⟩ => by rw [fr.eq c c2 (by simp; omega), c3]; rfl) (fun i x σ S' hx ⟨o5, o6, o7, e, hFF, fr⟩ => ?_) (fun σ S' ⟨o5, o6, o7, e, hFF, fr⟩ => ?_)
  · subst e
    obtain ⟨a, ea, ex⟩ := at_refs hx
    subst ex
    have hi : i < cs.length := by rw [← la]; exact lt_of_get ea
    have eM : cs[i]? = some cs[i] := List.getElem?_eq_getElem hi
    generalize cs[i] = M at eM
    obtain ⟨q1, q2, q3⟩ := ll.2 i a M ea eM
    have ha := (fr.eq a q3 (by simp; omega)).trans q1
    have la3 := Nat.lt_of_lt_of_le q3 fr.le
    have hn4 := (fr.eq n (by have := f3.le; omega) (by simp; omega)).trans hn3
    have ln4 : n < S'.next := by have := f3.le; have := fr.le; omega
    have lF4 : F < S'.next := by have := f3.le; have := fr.le; omega
    have nF : n ≠ F := by omega
    have gl := hg0 M (List.mem_of_getElem? eM)
    have kd : ∀ Q S, kDictR Q S (some (.lst (hs.map fun h => W.tup [.int h, .int (sh + b01 (h ∈ M))]))) = Q (.ref S.next) (S.new (.dct false (kv hs (tg sh M)))) := fun Q S => k_DictK (u := tg sh M) nd
    have stp : ∀ S5 : Sto, (S5.get F = some (.lst (tupsW ((((cs.take i).filter fun M => decide (KK hs os (tg sh M) = v)).map fun M => gB hs os (tg sh M)) ++ (if KK hs os (tg sh M) = v then [gB hs os (tg sh M)] else []))))) → S5.get F = some (.lst (tupsW (((cs.take (i + 1)).filter fun M => decide (KK hs os (tg sh M) = v)).map fun M => gB hs os (tg sh M)))) := fun S5 h => by
      rw [h, List.take_succ, eM, Option.toList_some, List.filter_append, List.map_append]
      congr 4
      by_cases q : KK hs os (tg sh M) = v <;> simp [q]
    clear hF2 hn2 hF3 hn3
    x_go
    refine y_lc ?_
    x_go
    refine lc_all_i (l := hs) .int (fun h => .tup [.int h, .int (sh + b01 (h ∈ M))]) (by x_go) (by x_go) (by omega) (fun h acc _ => by x_go) ?_
    x_go
    have f4 : Fr [F] S3 ((S'.new (Nd.lst (List.map (fun h => W.tup [W.int h, W.int (sh + b01 (h ∈ M))]) hs))).new (Nd.dct false (kv hs (tg sh M)))) := fr.nwA.nwA
    have hF5 : ((S'.new (Nd.lst (List.map (fun h => W.tup [W.int h, W.int (sh + b01 (h ∈ M))]) hs))).new (Nd.dct false (kv hs (tg sh M)))).get F = _ := (new_ne (Nat.lt_succ_of_lt lF4)).trans ((new_ne lF4).trans hFF)
    have hn5 : ((S'.new (Nd.lst (List.map (fun h => W.tup [W.int h, W.int (sh + b01 (h ∈ M))]) hs))).new (Nd.dct false (kv hs (tg sh M)))).get n = _ := (new_ne (Nat.lt_succ_of_lt ln4)).trans ((new_ne ln4).trans hn4)
    have hD5 : ((S'.new (Nd.lst (List.map (fun h => W.tup [W.int h, W.int (sh + b01 (h ∈ M))]) hs))).new (Nd.dct false (kv hs (tg sh M)))).get (S'.next + 1) = some (Nd.dct false (kv hs (tg sh M))) := new_get
    have hx5 : ((S'.new (Nd.lst (List.map (fun h => W.tup [W.int h, W.int (sh + b01 (h ∈ M))]) hs))).new (Nd.dct false (kv hs (tg sh M)))).next = S'.next + 1 + 1 := rfl
    generalize ((S'.new (Nd.lst (List.map (fun h => W.tup [W.int h, W.int (sh + b01 (h ∈ M))]) hs))).new (Nd.dct false (kv hs (tg sh M)))) = S5 at f4 hF5 hn5 hD5 hx5
    clear kd hFF hn4 ha
    refine y_lc ?_
    x_go
    refine lc_all_i (l := hs) .int (fun h => .int (min (ct os h) (tg sh M h))) (by omega) (by x_go) (by omega) (fun h acc mh => by have := kv_val (u := tg sh M) mh; x_go) ?_
    have ekk := kk_map (hs := hs) (os := os) (n := tg sh M)
    x_go
    have f6 := f4.nwA (d := .lst (hs.map fun h => .int (min (ct os h) (tg sh M h))))
    have hF6 : (S5.new (.lst (hs.map fun h => .int (min (ct os h) (tg sh M h))))).get F = _ := (new_ne (by omega)).trans hF5
    have hn6 : (S5.new (.lst (hs.map fun h => .int (min (ct os h) (tg sh M h))))).get n = _ := (new_ne (by omega)).trans hn5
    have hD6 : (S5.new (.lst (hs.map fun h => .int (min (ct os h) (tg sh M h))))).get (S'.next + 1) = _ := (new_ne (by omega)).trans hD5
    have hx6 : (S5.new (.lst (hs.map fun h => .int (min (ct os h) (tg sh M h))))).next = S'.next + 1 + 1 + 1 := by rw [new_next, hx5]
    generalize (S5.new (.lst (hs.map fun h => .int (min (ct os h) (tg sh M h))))) = S6 at f6 hF6 hn6 hD6 hx6
    clear hF5 hn5 hD5
    refine sel_i (fun hq => ?_) (fun hq => ?_)
    · x_go
      refine R.wp_mono (first_ok (k := k + 13) hF hn6 (by omega) hD6 (by omega) l6 ol gl) (fun w S7 ⟨ev, f7⟩ => ?_) (fun _ _ z => z)
      subst ev
      have hF7 := (f7.eq F (by omega) (by simp)).trans hF6
      have f37 := f6.sub f7
      have lf := List.length_filter_le (fun M => decide (KK hs os (tg sh M) = v)) (cs.take i)
      have lt := List.length_take_le i cs
      have lw : ((((cs.take i).filter fun M => decide (KK hs os (tg sh M) = v)).map fun M => gB hs os (tg sh M)).map fun t => W.tup (t.map W.int)).length ≤ 64 := by
        rw [List.length_map, List.length_map, ]; omega
      unfold tupsW at hF7
      generalize hL : ((((cs.take i).filter fun M => decide (KK hs os (tg sh M) = v)).map fun M => gB hs os (tg sh M)).map fun t => W.tup (t.map W.int)) = L at hF7 lw
      have lF7 : F < S7.next := by have := f7.le; omega
      clear hF6
      x_go
      refine ⟨by omega, duI_i (stp _ ?_) ?_⟩
      · rw [put_get, if_pos hq]
        unfold tupsW
        rw [List.map_append, hL]; rfl
      · exact f37.trans (B := [F]) ⟨Nat.le_refl _, fun q hq' hx => put_ne (by simpa using hx)⟩ (fun _ _ h => h)
    · x_go
      exact duI_i (stp _ (by rw [if_neg hq, List.append_nil]; exact hF6)) f6
  · subst e
    have e1 : cs.take (as.map W.ref).length = cs := by rw [List.length_map, la, List.take_length]
    rw [e1] at hFF
    unfold tupsW at hFF
    have hmin : ∀ (Q : PQ) (S : Sto), kMin Q S (some (.lst ((((cs.filter fun M => decide (KK hs os (tg sh M) = v)).map fun M => gB hs os (tg sh M))).map fun t => W.tup (t.map .int)))) = Q (.tup (g.map .int)) S := fun Q S => by rw [k_MinL, hle]; rfl
    generalize ((((cs.filter fun M => decide (KK hs os (tg sh M) = v)).map fun M => gB hs os (tg sh M))).map fun t => W.tup (t.map .int)) = L at hFF hmin
    x_go
    refine ⟨rfl, Nat.le_trans f23.le fr.le, fun q hq _ => ?_⟩
    rw [fr.eq q (by have := f23.le; omega) (by simp; omega)]
    exact f23.eq q hq (by simp)
/-! ### alike -/
theorem alike_int {T : Tab} (hT : T (.fn .n_law_alike) = some b_law_alike) {k : Nat} {a b : Int} {S : Sto} {Z : PZ} :
    (run T (k + 1) (.fn .n_law_alike) [.int a, .int b] S).wp (isQ (.bl (decide (a = b))) S) Z := by
  refine run_q hT rfl ?_
  show (exec (run T k) b_law_alike.body [some (.int a), some (.int b), none] S).wp _ _ _
  unfold b_law_alike
  dsimp only
  x_go
theorem alike_tup {T : Tab} (hT : T (.fn .n_law_alike) = some b_law_alike) {k : Nat} {xs : List Int} {S : Sto} {Z : PZ} (hl : xs.length ≤ 100) :
    (run T (k + 2) (.fn .n_law_alike) [.tup (xs.map .int), .tup (xs.map .int)] S).wp (isQ (.bl true) S) Z := by
  refine run_q hT rfl ?_
  show (exec (run T (k + 1)) b_law_alike.body [some (.tup (xs.map .int)), some (.tup (xs.map .int)), none] S).wp _ _ _
  unfold b_law_alike
  dsimp only
  x_go
  refine y_forT ?_
  x_go
  refine ⟨by omega, ?_⟩
  refine forT_rng0 (fun i σ S' => S' = S ∧ ∃ o, σ = [some (.tup (xs.map .int)), some (.tup (xs.map .int)), o]) ⟨rfl, none, rfl⟩ (fun i σ S' hi ⟨es, o, e⟩ => ?_) (fun σ S' ⟨es, o, e⟩ => ?_)
  · subst es e
    have hi' : i < xs.length := by omega
    have hw : (xs.map W.int)[i]? = some (.int xs[i]) := by rw [List.getElem?_map, List.getElem?_eq_getElem hi']; rfl
    generalize xs[i] = x at hw
    x_go
    refine R.wp_mono (alike_int hT) (fun w S1 ⟨ev, e1⟩ => ?_) (fun _ _ z => z)
    subst ev e1
    x_go
    exact ⟨_, rfl⟩
  · subst es e
    x_go
end D
end

section
/-! The law of shares. -/
namespace D
open PySem L2
local macro_rules | `(tactic| x_go) => `(tactic| simp (disch := first | assumption | omega | ((simp only [new_next, put_next]) <;> omega) | fail) only [*, k_SortL, cut_mid, g_sorted, map_erase, beq_self_eq_true, Bool.true_eq_false, g_ext, g_sum, k_SumI, k_SumM, g_min, k_MinI, g_max, k_MaxI, g_dictR, k_DictD, f_lrng, kd_tup', g_cntT, in_refI, inD_l, inD_d, cut_from, cut_from1, h_LcT, eq_tI, int_beq, x_nil, y_cons, x_pass, y_ex, y_set, y_setA, y_setI, y_setT, y_par, y_ite, y_ret, x_retN, x_rse, y_tri, y_forE, y_turn, e_var, e_int, e_bl, e_non, e_str, e_gi, e_gs, q_bin, q_neg, q_nt, q_and, q_or, q_cmp, q_chain, q_ife, q_call, q_new, q_meth, q_bi, q_bm, q_attr, q_ix, q_sl, q_rev, e_tup, q_lst, e_dct0, q_dctk, q_isi, q_rng1, q_rng2, e_nil, q_cons, q_kv, k_E2, k_Bin, k_Cmp, k_Ix, k_Cons, k_Rng2, k_Kv1, k_Kv, k_Neg, k_Nt, k_And, i_And, i_AndF, k_Or, i_Or, i_OrF, k_Ife, i_Ife, i_IfeF, k_Ch, k_Ch1, i_Ch, i_ChF, k_Call, k_New, k_New1, k_Me, k_Me1, k_Me2, k_Bi, k_Bm, k_Bm1, k_Bm2, k_Opt, k_Bl, k_NBl, k_At, k_At1, k_Int, k_Sl, k_Sl1, k_Sl2, ev_t, ev_f, isNo, k_Rev, k_Rev1, k_Lst, k_Dct, k_Dct1, k_Dct2, k_Isi, k_Rng1, g_eq, g_ne, g_in, g_nin, g_ixT, g_ixR, k_ItmL, k_ItmD, k_ItK, w_keyI, w_keyS, g_slR, k_Lst1, g_addL, k_AddL, g_mulL, k_MulL, g_lenR, k_LenL, k_LenF, k_LenD, g_listR, k_SeqLL, k_SeqLF, g_tupR, k_SeqTL, k_SeqTF, g_app, k_App, g_ins, k_Ins, g_clr, k_Clr, g_pop, k_PopL, k_PopD, k_Pop1, k_Pop2, k_PopD1, g_get, k_GetI, k_GetS, h_Seq, h_End, h_Drop, h_Set, h_SA, h_SA1, h_SA2, h_SI, h_SI1, h_SI2, h_SI3, h_SI3D, h_SI3S, h_SIl, h_Env, h_ST, h_Par, h_Ite, i_Ite, i_IteF, h_Turn, h_zE, varP_some, put_get, put_ne, put_next, new_get, new_ne, new_at, new_next, b_add, b_sub, b_mul, b_div, b_mod, b_addS, b_addT, c_lt, c_le, c_gt, c_ge, c_is, c_isn, eq_int, eq_str, eq_bl, eq_si, eq_is, eq_nn, eq_ni, eq_in, eq_ref, nodL_l, nodL_f, eqN_s, eqLs_ints, eqLs_ints0, eqLs_nn, eqLs_c0, i_str, s_tup, s_str, at_nat, ix_nat, at_last', implies_true, not_true_eq_false, not_false_eq_true, Int.toNat_zero, Int.toNat_one, Int.reduceToNat, List.length_cons, List.length_nil, List.length_map, List.length_append, List.length_set, List.eraseIdx_cons_zero, f_lenT, f_lenS, f_listT, f_intI, f_intD, f_minI, f_maxI, f_str, kd_ref, kd_str', kdP_lst, kdP_dct, fitK, isi_non, isi_int, isi_bl, isi_str, isi_tup, isi_ref, isiN_l, isiN_f, isiN_d, tyI, tyB, tySt, tyT, tyL, isN, h_Pur, pT_t, pT_f, isQ_i, wipe_nil, wipe_cons, new_put, put_put, Int.toNat_natCast, val_same, cut2_1, fld, putf, if_true, if_false, eq_self, take_one, take_tup, setAll_nil, setAll_cons, List.getElem?_cons_zero, List.getElem?_cons_succ, List.set_cons_zero, List.set_cons_succ, List.map_cons, List.map_nil, List.cons_append, List.nil_append, decide_eq_true_eq, Bool.false_eq_true, true_and, and_true, Bool.not_true, Bool.not_false, Bool.not_eq_true', decide_eq_false_iff_not, reduceCtorEq])
theorem gA_mem {hs : List Int} {sh ov : Int} : ∀ {r : List Int} {u : Int → Int} {b x : Int}, x ∈ gA hs sh ov r u b → x ∈ hs
  | [], u, b, x, h => by simp [gA] at h
  | o :: r, u, b, x, h => by
    rw [gA_cons] at h
    cases e : hs.find? (pA hs sh ov o r u b) with
    | none => rw [e] at h; simp at h
    | some a =>
      rw [e] at h
      rcases List.mem_cons.mp h with q | q
      · rw [q]; exact List.mem_of_find?_eq_some e
      · exact gA_mem q
theorem Box.nw {S : Sto} {b l : Nat} {x : Int} {ns : List Int} {d : Nd} (B : Box S b l x ns) : Box (S.new d) b l x ns :=
  ⟨(new_ne B.lb).trans B.hb, (new_ne B.ll).trans B.hl, Nat.lt_succ_of_lt B.lb, Nat.lt_succ_of_lt B.ll, B.ne⟩
/-- a list that stands beside the box -/
structure LB (S : Sto) (b l L : Nat) (rem : List Int) : Prop where
  box : ∃ x ns, Box S b l x ns
  hL : S.get L = some (.lst (rem.map .int))
  lL : L < S.next
  ne : L ≠ b ∧ L ≠ l
theorem LB.fr {S S' : Sto} {b l L : Nat} {rem : List Int} (h : LB S b l L rem) (f : Fr [] S S') : LB S' b l L rem := by
  obtain ⟨⟨x, ns, hb, hl, lb, ll, ne⟩, hL, lL, n⟩ := h
  exact ⟨⟨x, ns, (f.eq b lb (by simp)).trans hb, (f.eq l ll (by simp)).trans hl, Nat.lt_of_lt_of_le lb f.le, Nat.lt_of_lt_of_le ll f.le, ne⟩, (f.eq L lL (by simp)).trans hL, Nat.lt_of_lt_of_le lL f.le, n⟩
theorem LB.put {S : Sto} {b l L n : Nat} {rem : List Int} {d : Nd} (h : LB S b l L rem) (e : n ≠ b ∧ n ≠ l ∧ n ≠ L) : LB (S.put n d) b l L rem := by
  obtain ⟨⟨x, ns, hb, hl, lb, ll, ne⟩, hL, lL, q⟩ := h
  exact ⟨⟨x, ns, (put_ne (by omega)).trans hb, (put_ne (by omega)).trans hl, lb, ll, ne⟩, (put_ne (by omega)).trans hL, lL, q⟩
theorem LB.putL {S : Sto} {b l L : Nat} {rem rem' : List Int} (h : LB S b l L rem) : LB (S.put L (.lst (rem'.map .int))) b l L rem' := by
  obtain ⟨⟨x, ns, hb, hl, lb, ll, ne⟩, hL, lL, q⟩ := h
  exact ⟨⟨x, ns, (put_ne (by omega)).trans hb, (put_ne (by omega)).trans hl, lb, ll, ne⟩, put_get, lL, q⟩
theorem take_lb {T : Tab} (hT : T (.fn .n_law_take) = some b_law_take) {k b l L : Nat} {rem : List Int} {m : Int} {S : Sto} {Z : PZ} (g : LB S b l L rem) (hm : 0 < m ∧ m < 2 ^ 100) :
    (run T (k + 1) (.fn .n_law_take) [.ref b, .int m] S).wp (fun v S1 => ∃ r : Nat, v = .int r ∧ (r : Int) < m ∧ LB S1 b l L rem ∧ Fr [b, l] S S1) Z := by
  obtain ⟨⟨x, ns, B⟩, hL, lL, ne⟩ := g
  refine R.wp_mono (take_ok' hT B hm) (fun v S1 ⟨r, x', ns', ev, r0, r1, B1, f1⟩ => ?_) (fun _ _ z => z)
  obtain ⟨r', er⟩ := Int.eq_ofNat_of_zero_le r0
  subst er
  exact ⟨r', ev, r1, ⟨⟨x', ns', B1⟩, (f1.eq L lL (by simp; omega)).trans hL, Nat.lt_of_lt_of_le lL f1.le, ne⟩, f1⟩
/-- what is drawn of twenty -/
def Drw (xs rem : List Int) : Prop := (xs ++ rem).Nodup ∧ ∀ y ∈ xs ++ rem, 0 ≤ y ∧ y ≤ 19
theorem erase_perm : ∀ {l : List Int} {j : Nat} (hj : j < l.length), (l[j] :: l.eraseIdx j).Perm l
  | x :: l, 0, _ => .refl _
  | x :: l, j + 1, hj => by
    have ih := erase_perm (l := l) (j := j) (by simpa using hj)
    exact (List.Perm.swap x _ _).trans (ih.cons x)
theorem Drw.step {xs rem : List Int} {j : Nat} (h : Drw xs rem) (hj : j < rem.length) : Drw (xs ++ [rem[j]]) (rem.eraseIdx j) := by
  have p : (xs ++ [rem[j]] ++ rem.eraseIdx j).Perm (xs ++ rem) := by
    rw [List.append_assoc]
    exact (erase_perm hj).append_left xs
  exact ⟨p.nodup_iff.mpr h.1, fun y m => h.2 y (p.mem_iff.mp m)⟩
theorem drw0 : Drw [] ((List.range 20).map fun (k : Nat) => (k : Int)) := by
  refine ⟨by decide, fun y m => ?_⟩
  rw [List.nil_append] at m
  obtain ⟨k, mk, e⟩ := List.mem_map.mp m
  have := List.mem_range.mp mk
  omega
theorem rng20 : rangeW 0 20 = ((List.range 20).map fun (k : Nat) => (k : Int)).map .int := by
  rw [List.map_map]
  show (List.range 20).map _ = _
  exact List.map_congr_left fun k _ => by simp
theorem sort_lt {xs : List Int} (nd : xs.Nodup) : (sortInts xs).Pairwise (· < ·) := by
  have h1 := sortInts_sorted xs
  have h2 : (sortInts xs).Nodup := (sortInts_perm xs).nodup_iff.mpr nd
  have h3 := List.pairwise_and_iff.mpr ⟨h1, h2⟩
  exact h3.imp fun h => by omega
structure Tabs2 (T : Tab) : Prop where
  la : T (.fn .n_law) = some b_law
  be : T (.fn .n_law_begun) = some b_law_begun
  ta : T (.fn .n_law_take) = some b_law_take
  al : T (.fn .n_law_alike) = some b_law_alike
  ch : T (.fn .n_law_choices) = some b_law_choices
  st : T (.fn .n_law_stay) = some b_law_stay
  sh : T (.fn .n_law_shared) = some b_law_shared
  fi : T (.fn .n_law_first) = some b_law_first
  sd : T (.fn .n_shared) = some b_shared
  no : T (.fn .n_need_owners) = some b_need_owners
  nh : T (.fn .n_need_houses) = some b_need_houses
  sb : T (.fn .n_shared_by) = some b_shared_by
  mo : T (.fn .n_most_kept) = some b_most_kept
  nu : T (.fn .n_is_number) = some b_is_number
def lwO (s b l : Nat) : Nat → PN := fun _ σ S => ∃ o2 o3 o4 o5 o6 o7 o8 o9 o10 o11 o12, σ = [some (.ref s), some (.ref b), o2, o3, o4, o5, o6, o7, o8, o9, o10, o11, o12] ∧ ∃ x ns, Box S b l x ns
def lwI (s b l M : Nat) (xs : List Int) : Nat → PN := fun _ σ S => ∃ (o2 o3 o5 : Option W) (os : List Int) (o7 o8 o9 o10 o11 o12 : Option W), σ = [some (.ref s), some (.ref b), o2, o3, some (.ref M), o5, some (.tup (os.map .int)), o7, o8, o9, o10, o11, o12] ∧ LB S b l M xs ∧ os.length = 12 ∧ ∀ o ∈ os, 0 ≤ o ∧ o ≤ 19
theorem shared_ev {T : Tab} (t : Tabs2 T) {k n : Nat} {hs os : List Int} {sh : Int} {ov : Nat} {S : Sto} {Z : PZ} {v : Int} (E : Even hs os sh ov) (hn : S.get n = some (.lst (hs.map .int))) (ln : n < S.next) (ho : ∀ o ∈ hs, 0 ≤ o ∧ o ≤ 19) (oo : ∀ o ∈ os, 0 ≤ o ∧ o ≤ 19)
    (hb : mkept sh os (fun _ => 0) hs ov = some v) (hg : (gA hs sh ov os (fun _ => 0) v).length = 12) : (run T (k + 3) (.fn .n_shared) [.tup (os.map .int), .ref n] S).wp (tupQ (gA hs sh ov os (fun _ => 0) v) S) Z := by
  have h := shared_ok t.sd t.no t.nh t.sb t.mo t.nu (k := k) (Z := Z) hn ln E.l0 E.l6 ho E.pw E.ol oo (by rw [E.es, E.eo]; exact hb) (by rw [E.es, E.eo]; exact hg)
  rw [E.es, E.eo] at h
  exact h
theorem k02_law {T : Tab} (t : Tabs2 T) (k : Nat) (ns : List Int) : ∃ S, run T (k + 20) (.fn .n_law) [.ref 0] (S0 ns) = .ok (.bl true) S := by
  have hlim : lim = 16000000 := rfl
  have go : (run T (k + 20) (.fn .n_law) [.ref 0] (S0 ns)).wp (fun v _ => v = .bl true) noZ := by
    refine run_q t.la rfl ?_
    show (exec (run T (k + 19)) b_law.body [some (.ref 0), none, none, none, none, none, none, none, none, none, none, none, none] (S0 ns)).wp _ _ _
    unfold b_law
    dsimp only
    have hs : (S0 ns).get 0 = some (.frz (ns.map .int)) := rfl
    have ls : 0 < (S0 ns).next := Nat.one_pos
    generalize S0 ns = S at hs ls
    x_go
    refine R.wp_mono (begun_ok t.be hs ls) (fun v S1 ⟨b, l, x, ns', ev, _, _, B, f1⟩ => ?_) (fun _ _ z => z)
    subst ev
    clear hs
    x_go
    refine y_forT ?_
    x_go
    refine ⟨by omega, ?_⟩
    refine forT_rng0 (lwO 0 b l) ⟨_, _, _, _, _, _, _, _, _, _, _, rfl, x, ns', B⟩ (fun i σ S' hi ⟨o2, o3, o4, o5, o6, o7, o8, o9, o10, o11, o12, e, x, ns', B⟩ => ?_) (fun σ S' ⟨o2, o3, o4, o5, o6, o7, o8, o9, o10, o11, o12, e, x, ns', B⟩ => ?_)
    · subst e
      clear hi
      have g0 : LB (S'.new (.lst (rangeW 0 20))) b l S'.next ((List.range 20).map fun (k : Nat) => (k : Int)) := by
        rw [rng20]
        exact ⟨⟨x, ns', B.nw⟩, new_get, Nat.lt_succ_self _, by have := B.lb; have := B.ll; omega⟩
      x_go
      generalize S'.new (.lst (rangeW 0 20)) = S2 at g0
      generalize S'.next = L at g0
      refine y_lc ?_
      x_go
      refine ⟨by omega, ?_⟩
      refine lc_rng_inv (n := 8) (fun j acc S3 => ∃ xs rem, acc = xs.map .int ∧ LB S3 b l L rem ∧ Drw xs rem ∧ xs.length = j ∧ rem.length + j = 20 ∧ S2.next < S3.next) (by omega) ⟨[], _, rfl, g0.fr Fr.refl.nw, drw0, rfl, rfl, Nat.lt_succ_self _⟩ (fun j acc S3 hj ha hD ⟨xs, rem, ea, g, dr, lx, lr, l3⟩ => ?_) (fun acc S3 ha hD ⟨xs, rem, ea, g, dr, lx, lr, l3⟩ => ?_)
      · have hL := g.hL
        have lL := g0.lL
        x_go
        refine R.wp_mono (take_lb t.ta g (by omega)) (fun v S4 ⟨r, ev, hr, g4, f4⟩ => ?_) (fun _ _ z => z)
        subst ev
        have hr' : r < rem.length := by omega
        have hw : (rem.map W.int)[r]? = some (.int rem[r]) := by rw [List.getElem?_map, List.getElem?_eq_getElem hr']; rfl
        have st := dr.step hr'
        have le := List.length_eraseIdx_of_lt hr'
        have hD4 := (f4.eq S2.next l3 (by obtain ⟨x, ns, B⟩ := g0.box; have := B.lb; have := B.ll; simp; omega)).trans hD
        generalize rem[r] = y at hw st
        clear hL
        have hL := g4.hL
        have ne2 : L ≠ S2.next := by omega
        x_go
        refine ⟨by omega, xs ++ [y], rem.eraseIdx r, by simp [ea], ?_, st, by simp [lx], by omega, by have := f4.le; first | omega | (simp only [put_next]; omega)⟩
        exact g4.putL.put (by obtain ⟨x, ns, B⟩ := g0.box; have := B.lb; have := B.ll; omega)
      · subst ea
        have l8 : xs.length = 8 := by rw [List.length_map] at ha; exact ha
        have gM : LB S3 b l S2.next xs := by
          obtain ⟨B, _, _, _⟩ := g
          obtain ⟨x, ns, B0⟩ := g0.box
          exact ⟨B, hD, l3, by have := B0.lb; have := B0.ll; omega⟩
        generalize S2.next = M at gM
        have nd : xs.Nodup := (List.nodup_append.mp dr.1).1
        have xr : ∀ y ∈ xs, 0 ≤ y ∧ y ≤ 19 := fun y m => dr.2 y (List.mem_append_left _ m)
        clear g0 g dr hD ha l3 lx lr
        x_go
        have g5 : LB (S3.new (.lst [.int 1, .int 2, .int 6])) b l M xs := gM.fr Fr.refl.nw
        have hK : (S3.new (.lst [.int 1, .int 2, .int 6])).get S3.next = some (.lst [.int 1, .int 2, .int 6]) := new_get
        have lK : S3.next < (S3.new (.lst [.int 1, .int 2, .int 6])).next := Nat.lt_succ_self _
        have nK : S3.next ≠ b ∧ S3.next ≠ l := by obtain ⟨⟨x, ns, B⟩, _, _, _⟩ := gM; have := B.lb; have := B.ll; omega
        generalize S3.new (.lst [.int 1, .int 2, .int 6]) = S4 at g5 hK lK
        refine R.wp_mono (take_lb t.ta g5 (by omega)) (fun v S5 ⟨r, ev, hr, g6, f6⟩ => ?_) (fun _ _ z => z)
        subst ev
        have hK5 := (f6.eq S3.next lK (by simp; omega)).trans hK
        have most : ∃ q : Int, [W.int 1, W.int 2, W.int 6][r]? = some (.int q) ∧ 0 < q ∧ q ≤ 6 := by
          have : r = 0 ∨ r = 1 ∨ r = 2 := by omega
          rcases this with h | h | h <;> subst h
          · exact ⟨1, rfl, by omega, by omega⟩
          · exact ⟨2, rfl, by omega, by omega⟩
          · exact ⟨6, rfl, by omega, by omega⟩
        obtain ⟨q, hq, q0, q6⟩ := most
        clear hK g5 gM
        x_go
        refine y_lc ?_
        x_go
        refine ⟨by omega, ?_⟩
        refine lc_rng_inv (n := 12) (fun j acc S6 => ∃ ys, acc = ys.map .int ∧ LB S6 b l M xs ∧ (∀ y ∈ ys, 0 ≤ y ∧ y ≤ 19) ∧ S5.next < S6.next) (by omega) ⟨[], rfl, g6.fr Fr.refl.nw, by simp, Nat.lt_succ_self _⟩ (fun j acc S6 hj ha hD ⟨ys, ea, g, yr, l6⟩ => ?_) (fun acc S6 ha hD ⟨ys, ea, g, yr, l6⟩ => ?_)
        · x_go
          refine R.wp_mono (take_lb t.ta g (by omega)) (fun v S7 ⟨r2, ev, hr2, g7, f7⟩ => ?_) (fun _ _ z => z)
          subst ev
          have h2 : r2 < xs.length := by omega
          have hw : (xs.map W.int)[r2]? = some (.int xs[r2]) := by rw [List.getElem?_map, List.getElem?_eq_getElem h2]; rfl
          have hm := xr xs[r2] (List.getElem_mem h2)
          have hD7 := (f7.eq S5.next l6 (by obtain ⟨⟨x, ns, B⟩, _, _, _⟩ := g6; have := B.lb; have := B.ll; simp; omega)).trans hD
          have hM := g7.hL
          generalize xs[r2] = y at hw hm
          clear hD
          x_go
          refine ⟨ys ++ [y], by simp [ea], g7.put (by obtain ⟨⟨x, ns, B⟩, _, lM, _⟩ := g6; have := B.lb; have := B.ll; omega), fun z m => ?_, by have := f7.le; first | omega | (simp only [put_next]; omega)⟩
          rcases List.mem_append.mp m with m | m
          · exact yr z m
          · rw [List.mem_singleton.mp m]; exact hm
        · subst ea
          have l12 : ys.length = 12 := by rw [List.length_map] at ha; exact ha
          clear hK5
          x_go
          refine y_forT ?_
          x_go
          refine R.wp_mono (take_lb t.ta g (by omega)) (fun v S7 ⟨r3, ev, hr3, g7, f7⟩ => ?_) (fun _ _ z => z)
          subst ev
          clear hD
          x_go
          refine ⟨by omega, ?_⟩
          refine forT_rng0 (lwI 0 b l M xs) ⟨_, _, _, ys, _, _, _, _, _, _, rfl, g7, l12, yr⟩ (fun j σ S8 hj ⟨o2, o3, o5, os, o7, o8, o9, o10, o11, o12, e, g8, lo, oo⟩ => ?_) (fun σ S8 ⟨o2, o3, o5, os, o7, o8, o9, o10, o11, o12, e, g8, lo, oo⟩ => ?_)
          · subst e
            x_go
            refine R.wp_mono (take_lb t.ta g8 (by omega)) (fun v S9 ⟨r4, ev, hr4, g9, f9⟩ => ?_) (fun _ _ z => z)
            subst ev
            x_go
            refine R.wp_mono (take_lb t.ta g9 (by omega)) (fun v Sa ⟨r5, ev, hr5, ga, fa⟩ => ?_) (fun _ _ z => z)
            subst ev
            have hM := ga.hL
            have cm : cutW (xs.map .int) (some (r4 : Int)) (some ((r4 : Int) + 1 + (r5 : Int))) = ((xs.drop r4).take (r5 + 1)).map .int := cut_mid (by omega)
            x_go
            have sl : ((xs.drop r4).take (r5 + 1)).Sublist xs := (List.take_sublist _ _).trans (List.drop_sublist _ _)
            have ll : ((xs.drop r4).take (r5 + 1)).length = r5 + 1 := by rw [List.length_take, List.length_drop]; omega
            have lh : (sortInts ((xs.drop r4).take (r5 + 1))).length = r5 + 1 := by rw [(sortInts_perm _).length_eq, ll]
            have pw : (sortInts ((xs.drop r4).take (r5 + 1))).Pairwise (· < ·) := sort_lt (nd.sublist sl)
            have ho : ∀ o ∈ sortInts ((xs.drop r4).take (r5 + 1)), 0 ≤ o ∧ o ≤ 19 := fun o m => xr o (sl.subset ((sortInts_perm _).mem_iff.mp m))
            clear cm sl ll
            generalize (xs.drop r4).take (r5 + 1) = cs at *
            have f1 : Fr [] Sa (((Sa.new (.lst (cs.map .int))).new (.lst ((sortInts cs).map .int))).new (.lst ((sortInts cs).map .int))) := Fr.refl.nw.nw.nw
            have hH : (((Sa.new (.lst (cs.map .int))).new (.lst ((sortInts cs).map .int))).new (.lst ((sortInts cs).map .int))).get (Sa.next + 1) = some (.lst ((sortInts cs).map .int)) := (new_ne (by simp only [new_next]; omega)).trans new_get
            have hd : (((Sa.new (.lst (cs.map .int))).new (.lst ((sortInts cs).map .int))).new (.lst ((sortInts cs).map .int))).get (Sa.next + 1 + 1) = some (.lst ((sortInts cs).map .int)) := new_get
            have hx : (((Sa.new (.lst (cs.map .int))).new (.lst ((sortInts cs).map .int))).new (.lst ((sortInts cs).map .int))).next = Sa.next + 1 + 1 + 1 := rfl
            generalize (((Sa.new (.lst (cs.map .int))).new (.lst ((sortInts cs).map .int))).new (.lst ((sortInts cs).map .int))) = Sb at f1 hH hd hx
            have gb := ga.fr f1
            generalize sortInts cs = hs at *
            have E := Even.mk' (os := os) pw (by omega) (by omega) lo
            generalize (12 / (hs.length : Int)) = sh at E
            generalize (12 % (hs.length : Int)).toNat = ov at E
            obtain ⟨v, v1, v2, v3, v4⟩ := best_ex E
            have vm : ∀ o ∈ gA hs sh ov os (fun _ => 0) v, 0 ≤ o ∧ o ≤ 19 := fun o m => ho o (gA_mem m)
            have ca := fun {Z : PZ} {S : Sto} {n : Nat} (a : S.get n = some (.lst (hs.map .int))) (b : n < S.next) => shared_ev t (k := k + 16) (Z := Z) E a b ho oo v1 v3
            generalize hgo : gA hs sh ov os (fun _ => 0) v = go at *
            clear hM ga f1
            refine R.wp_mono (ca hd (by omega)) (fun w Sc ⟨ev, fc⟩ => ?_) (fun _ _ z => z)
            subst ev
            have hH2 := (fc.eq _ (by omega) (by simp)).trans hH
            have hd2 := (fc.eq _ (by omega) (by simp)).trans hd
            have gc := gb.fr fc
            have nc := fc.le
            clear hH hd
            x_go
            refine R.wp_mono (due2_ok (k := k + 4) t.sh t.ch t.st t.fi E hH2 (by omega) v2 v4) (fun w Sd ⟨ev, fd⟩ => ?_) (fun _ _ z => z)
            subst ev
            have hH3 := (fd.eq _ (by omega) (by simp)).trans hH2
            have hd3 := (fd.eq _ (by omega) (by simp)).trans hd2
            have gd := gc.fr fd
            have nd2 := fd.le
            clear hH2 hd2
            x_go
            refine R.wp_mono (alike_tup (k := k + 17) t.al (by omega)) (fun w Se ⟨ev, ee⟩ => ?_) (fun _ _ z => z)
            subst ev ee
            x_go
            have ge := gd.put (n := Sa.next + 1 + 1) (d := .lst []) (by obtain ⟨⟨x, ns, B⟩, _, lM, _⟩ := gb; have := B.lb; have := B.ll; obtain ⟨⟨x', ns', B'⟩, _, lM', _⟩ := g9; have := B'.lb; have := B'.ll; have := fa.le; omega)
            have hH4 : (Se.put (Sa.next + 1 + 1) (.lst [])).get (Sa.next + 1) = _ := (put_ne (by omega)).trans hH3
            have nx4 : (Se.put (Sa.next + 1 + 1) (.lst [])).next = Se.next := rfl
            generalize Se.put (Sa.next + 1 + 1) (.lst []) = Sf at ge hH4 nx4
            clear hH3 hd3
            refine R.wp_mono (ca hH4 (by omega)) (fun w Sg ⟨ev, fg⟩ => ?_) (fun _ _ z => z)
            subst ev
            x_go
            refine R.wp_mono (alike_tup (k := k + 17) t.al (by omega)) (fun w Sh ⟨ev, eh⟩ => ?_) (fun _ _ z => z)
            subst ev eh
            have gf := ge.fr fg
            x_go
            exact ⟨_, _, _, go, _, _, _, _, _, _, rfl, gf, v3, vm⟩
          · subst e
            exact ⟨_, _, _, _, _, _, _, _, _, _, _, rfl, g8.box⟩
    · subst e
      x_go
  cases h : run T (k + 20) (.fn .n_law) [.ref 0] (S0 ns) with
  | ok v S => rw [h] at go; exact ⟨S, by rw [show v = .bl true from go]⟩
  | ex x S => rw [h] at go; exact False.elim go
  | no => rw [h] at go; exact False.elim go
end D
end

section
/-! Shares, with no program in sight: of all that are even none has fewer moved, nor as many and stands ahead. -/
namespace D
/-- how many stay -/
def kp : List Int → List Int → Int
  | o :: r, g :: s => b01 (o = g) + kp r s
  | _, _ => 0
theorem kp_le : ∀ (r g : List Int), 0 ≤ kp r g ∧ kp r g ≤ r.length
  | [], g => by simp [kp]
  | o :: r, [] => by simp [kp]; omega
  | o :: r, g :: s => by
    have ih := kp_le r s
    have := b01_b (p := o = g)
    simp only [kp, List.length_cons]; omega
theorem kp_same : ∀ r : List Int, kp r r = r.length
  | [] => rfl
  | o :: r => by
    show b01 (o = o) + kp r r = ((o :: r).length : Int)
    rw [b01_t rfl, kp_same r, List.length_cons]; omega
theorem kp_all : ∀ {r g : List Int}, g.length = r.length → kp r g = r.length → g = r
  | [], [], _, _ => rfl
  | [], _ :: _, h, _ => by simp at h
  | _ :: _, [], h, _ => by simp at h
  | o :: r, g :: s, hl, h => by
    have := kp_le r s
    have b := b01_b (p := o = g)
    simp only [kp, List.length_cons] at h hl
    have e : o = g := by
      by_cases e : o = g
      · exact e
      · rw [b01_f e] at h; omega
    rw [b01_t e] at h
    rw [e, kp_all (r := r) (g := s) (by omega) (by omega)]
theorem find_at {hs : List Int} {o : Int} {r : List Int} {n : Int → Int} (nd : hs.Nodup) (hn : ∀ k ∈ hs, 0 ≤ n k) (hs' : (hs.map n).sum = r.length + 1) : ∃ a, hs.find? (fun h => decide (0 < n h ∧ KK hs r (up1 n h (-1)) + b01 (o = h) = KK hs (o :: r) n)) = some a ∧ a ∈ hs ∧ 0 < n a ∧ KK hs r (up1 n a (-1)) + b01 (o = a) = KK hs (o :: r) n ∧
    (∀ k ∈ hs, 0 ≤ up1 n a (-1) k) ∧ (hs.map (up1 n a (-1))).sum = r.length := by
  obtain ⟨h, m, g1, g2⟩ := pick_ex (o := o) nd hn hs'
  obtain ⟨a, ea⟩ := find_ex (p := fun h => decide (0 < n h ∧ KK hs r (up1 n h (-1)) + b01 (o = h) = KK hs (o :: r) n)) m (decide_eq_true ⟨g1, g2⟩)
  have ma := List.mem_of_find?_eq_some ea
  have pa := List.find?_some ea
  have pa := of_decide_eq_true pa
  refine ⟨a, ea, ma, pa.1, pa.2, fun k mk => ?_, ?_⟩
  · have := hn k mk
    unfold up1
    split
    · rename_i e; subst e; have := pa.1; omega
    · exact this
  · have := (sum_upd (u := n) (h := a) (d := -1) nd).2 ma
    omega
theorem gB_step {hs : List Int} {o : Int} {r : List Int} {n : Int → Int} {a : Int} (e : hs.find? (fun h => decide (0 < n h ∧ KK hs r (up1 n h (-1)) + b01 (o = h) = KK hs (o :: r) n)) = some a) : gB hs (o :: r) n = a :: gB hs r (up1 n a (-1)) := by
  rw [gB, e]
theorem gB_kp {hs : List Int} (nd : hs.Nodup) : ∀ {r : List Int} {n : Int → Int}, (∀ k ∈ hs, 0 ≤ n k) → (hs.map n).sum = r.length → kp r (gB hs r n) = KK hs r n ∧ (∀ h ∈ hs, ct (gB hs r n) h = n h) ∧ ∀ x ∈ gB hs r n, x ∈ hs
  | [], n, hn, hs' => by
    have z : ∀ h ∈ hs, n h = 0 := by
      intro h m
      have key : ∀ l : List Int, (∀ k ∈ l, 0 ≤ n k) → (l.map n).sum = 0 → ∀ k ∈ l, n k = 0 := fun l => by
        induction l with
        | nil => intro _ _ k mk; simp at mk
        | cons a l ih =>
          intro h1 h2 k mk
          have nn : ∀ l : List Int, (∀ k ∈ l, 0 ≤ n k) → 0 ≤ (l.map n).sum := fun l => by
            induction l with
            | nil => simp
            | cons b l ih => intro q; have := ih fun k m => q k (List.mem_cons_of_mem _ m); have := q b List.mem_cons_self; simp only [List.map_cons, List.sum_cons]; omega
          have s1 := nn l fun k m => h1 k (List.mem_cons_of_mem _ m)
          have s2 := h1 a List.mem_cons_self
          rw [List.map_cons, List.sum_cons] at h2
          rcases List.mem_cons.mp mk with e | mk
          · rw [e]; omega
          · exact ih (fun k m => h1 k (List.mem_cons_of_mem _ m)) (by omega) k mk
      exact key hs hn (by simpa using hs') h m
    refine ⟨?_, fun h m => by rw [z h m]; rfl, fun x m => by simp [gB] at m⟩
    show 0 = _
    rw [kk_congr z]
    have zz : ∀ l : List Int, 0 = KK l [] fun _ => 0 := fun l => by
      induction l with
      | nil => rfl
      | cons a l ih => rw [kk_cons, ← ih]; simp [ct]
    exact zz hs
  | o :: r, n, hn, hs' => by
    have hl : ((o :: r).length : Int) = r.length + 1 := by simp
    rw [hl] at hs'
    obtain ⟨a, ea, ma, pa, pk, h1, h2⟩ := find_at (o := o) nd hn hs'
    obtain ⟨i1, i2, i3⟩ := gB_kp nd h1 h2
    rw [gB_step ea]
    refine ⟨by simp only [kp]; omega, fun h m => ?_, fun x m => ?_⟩
    · rw [ct_cons, i2 h m]
      unfold up1
      by_cases e : h = a
      · subst e; rw [if_pos rfl, b01_t rfl]; omega
      · rw [if_neg e, b01_f fun z => e z.symm]; omega
    · rcases List.mem_cons.mp m with e | m
      · rw [e]; exact ma
      · exact i3 x m
/-- any row with just so many of each -/
theorem gB_opt {hs : List Int} (pw : hs.Pairwise (· < ·)) : ∀ {r g : List Int} {n : Int → Int}, g.length = r.length → (∀ x ∈ g, x ∈ hs) → (∀ h ∈ hs, ct g h = n h) → (hs.map n).sum = r.length →
    kp r g ≤ KK hs r n ∧ (kp r g = KK hs r n → gB hs r n = g ∨ ltL (gB hs r n) g = true)
  | [], [], n, _, _, hc, hs' => by
    have nd : hs.Nodup := pw.imp fun h => by omega
    have hn : ∀ k ∈ hs, 0 ≤ n k := fun k m => by rw [← hc k m]; exact ct_nn
    exact ⟨kk_nn hn, fun _ => .inl rfl⟩
  | [], _ :: _, _, hl, _, _, _ => by simp at hl
  | _ :: _, [], _, hl, _, _, _ => by simp at hl
  | o :: r, h :: g, n, hl, hm, hc, hs' => by
    have nd : hs.Nodup := pw.imp fun h => by omega
    have hn : ∀ k ∈ hs, 0 ≤ n k := fun k m => by rw [← hc k m]; exact ct_nn
    have hl' : ((o :: r).length : Int) = r.length + 1 := by simp
    rw [hl'] at hs'
    have mh : h ∈ hs := hm h List.mem_cons_self
    have c0 := hc h mh
    have cg := ct_nn (xs := g) (h := h)
    rw [ct_cons, b01_t rfl] at c0
    have hc' : ∀ k ∈ hs, ct g k = up1 n h (-1) k := fun k m => by
      have := hc k m
      rw [ct_cons] at this
      unfold up1
      by_cases e : k = h
      · subst e; rw [if_pos rfl]; rw [b01_t rfl] at this; omega
      · rw [if_neg e]; rw [b01_f fun z => e z.symm] at this; omega
    have hs2 : (hs.map (up1 n h (-1))).sum = r.length := by
      have := (sum_upd (u := n) (h := h) (d := -1) nd).2 mh
      omega
    obtain ⟨i1, i2⟩ := gB_opt pw (by simpa using hl) (fun x m => hm x (List.mem_cons_of_mem _ m)) hc' hs2
    have kb := (kk_nb (r := r) (o := o) (n := n) (by omega) nd mh).1
    simp only [kp]
    refine ⟨by omega, fun e => ?_⟩
    obtain ⟨a, ea, ma, pa, pk, _, _⟩ := find_at (o := o) nd hn hs'
    obtain ⟨_, _, f3⟩ := find_first pw ea
    have le := f3 h mh (decide_eq_true ⟨by omega, by omega⟩)
    rw [gB_step ea]
    by_cases q : a = h
    · subst q
      rcases i2 (by omega) with i | i
      · exact .inl (by rw [i])
      · exact .inr (by simp [ltL, i])
    · exact .inr (by simp [ltL]; omega)
theorem ltL_trans : ∀ {xs ys zs : List Int}, ltL xs ys = true → ltL ys zs = true → ltL xs zs = true
  | [], [], _, h, _ => by cases h
  | [], _ :: _, [], _, h => by cases h
  | [], _ :: _, _ :: _, _, _ => rfl
  | _ :: _, [], _, h, _ => by cases h
  | _ :: _, _ :: _, [], _, h => by cases h
  | x :: xs, y :: ys, z :: zs, h, g => by
    simp only [ltL, Bool.or_eq_true, decide_eq_true_eq, Bool.and_eq_true] at h g ⊢
    rcases h with h | ⟨h, h'⟩ <;> rcases g with g | ⟨g, g'⟩
    · exact .inl (by omega)
    · exact .inl (by omega)
    · exact .inl (by omega)
    · exact .inr ⟨by omega, ltL_trans h' g'⟩
/-- a row that is even -/
def EvenRow (hs : List Int) (sh : Int) (ov : Nat) (g : List Int) : Prop := g.length = 12 ∧ (∀ x ∈ g, x ∈ hs) ∧ ∃ M ∈ chs hs ov, ∀ h ∈ hs, ct g h = tg sh M h
section
variable {hs os : List Int} {sh : Int} {ov : Nat}
/-- what shared tells, and that none is better -/
theorem best_all (E : Even hs os sh ov) : ∃ v, mkept sh os (fun _ => 0) hs ov = some v ∧ EvenRow hs sh ov (gA hs sh ov os (fun _ => 0) v) ∧ kp os (gA hs sh ov os (fun _ => 0) v) = v ∧
    ∀ g, EvenRow hs sh ov g → kp os g ≤ v ∧ (kp os g = v → gA hs sh ov os (fun _ => 0) v = g ∨ ltL (gA hs sh ov os (fun _ => 0) v) g = true) := by
  obtain ⟨s0, o6, e12⟩ := E.nums
  have nd : hs.Nodup := E.pw.imp fun h => by omega
  have hv : ∀ M, val sh hs M (fun _ => 0) := fun M h _ => tg_nn s0
  obtain ⟨v, v1, v2, v3, v4⟩ := best_ex E
  have z0 : ∀ l : List Int, (l.map fun _ => (0 : Int)).sum = 0 := fun l => by
    induction l with
    | nil => rfl
    | cons a l ih => rw [List.map_cons, List.sum_cons, ih]; rfl
  have es : (hs.map fun _ => (0 : Int)).sum + os.length = sh * hs.length + ov := by rw [z0, E.ol]; omega
  obtain ⟨h1, M2, h2, h3, h4, h5⟩ := heart E.pw o6 v1 es
  rw [u0] at h4 h5
  have sm : ∀ M ∈ chs hs ov, (hs.map (tg sh M)).sum = os.length := fun M m => by
    obtain ⟨q1, q2⟩ := mem_chs.mp m
    rw [sum_tg nd q1, E.ol, q2]; omega
  have hn : ∀ M, ∀ k ∈ hs, 0 ≤ tg sh M k := fun M k _ => tg_nn s0
  obtain ⟨k1, k2, k3⟩ := gB_kp nd (hn M2) (sm M2 h2)
  rw [h5] at k1 k2 k3
  refine ⟨v, v1, ⟨v3, k3, M2, h2, k2⟩, by rw [k1, h4], fun g ⟨g1, g2, M, m1, g3⟩ => ?_⟩
  have ub : KK hs os (tg sh M) ≤ v := by
    obtain ⟨w, w1, w2⟩ := mk_ub (sh := sh) (r := os) nd m1 (hv M)
    rw [v1] at w1
    cases w1
    rw [u0] at w2
    exact w2
  obtain ⟨p1, p2⟩ := gB_opt E.pw (by rw [g1, E.ol]) g2 g3 (sm M m1)
  refine ⟨by omega, fun e => ?_⟩
  have q1 := h1 M m1 (hv M) (by rw [u0]; omega)
  rw [u0] at q1
  rcases q1 with q1 | q1 <;> rcases p2 (by omega) with q2 | q2
  · exact .inl (by rw [← q1, q2])
  · exact .inr (by rw [← q1]; exact q2)
  · exact .inr (by rw [← q2]; exact q1)
  · exact .inr (ltL_trans q1 q2)
theorem Even.re (E : Even hs os sh ov) {f : List Int} (h : f.length = 12) : Even hs f sh ov := ⟨E.pw, E.l0, E.l6, h, E.es, E.eo⟩
/-- shared once more nothing moves -/
theorem best_again (E : Even hs os sh ov) {f : List Int} (hf : EvenRow hs sh ov f) : ∃ v, mkept sh f (fun _ => 0) hs ov = some v ∧ gA hs sh ov f (fun _ => 0) v = f := by
  obtain ⟨v, v1, ⟨w1, w2, w3⟩, v3, v4⟩ := best_all (E.re hf.1)
  obtain ⟨p1, p2⟩ := v4 f hf
  have := kp_le f (gA hs sh ov f (fun _ => 0) v)
  have := kp_same f
  refine ⟨v, v1, kp_all (by rw [w1, hf.1]) (by omega)⟩
theorem row_ct {f : List Int} (hf : EvenRow hs sh ov f) : ∀ h ∈ hs, sh ≤ ct f h ∧ ct f h ≤ sh + 1 := fun h m => by
  obtain ⟨_, _, M, _, e⟩ := hf
  rw [e h m]
  have := b01_b (p := h ∈ M)
  unfold tg; omega
theorem row_sum (E : Even hs os sh ov) {f : List Int} (hf : EvenRow hs sh ov f) : (hs.map (ct f)).sum = 12 := by
  obtain ⟨s0, o6, e12⟩ := E.nums
  have nd : hs.Nodup := E.pw.imp fun h => by omega
  obtain ⟨_, _, M, m, e⟩ := hf
  obtain ⟨q1, q2⟩ := mem_chs.mp m
  rw [List.map_congr_left (g := tg sh M) e, sum_tg nd q1, q2]; omega
end
end D
end

section
/-! The law of rows of changes: how many moved; rows that are drawn, even. -/
namespace D
open PySem L2
local macro_rules | `(tactic| x_go) => `(tactic| simp (disch := first | assumption | omega | ((simp only [new_next, put_next]) <;> omega) | fail) only [*, k_SortL, cut_mid, g_sorted, map_erase, beq_self_eq_true, Bool.true_eq_false, g_ext, g_sum, k_SumI, k_SumM, g_min, k_MinI, g_max, k_MaxI, g_dictR, k_DictD, f_lrng, kd_tup', g_cntT, in_refI, inD_l, inD_d, cut_from, cut_from1, h_LcT, eq_tI, int_beq, x_nil, y_cons, x_pass, y_ex, y_set, y_setA, y_setI, y_setT, y_par, y_ite, y_ret, x_retN, x_rse, y_tri, y_forE, y_turn, e_var, e_int, e_bl, e_non, e_str, e_gi, e_gs, q_bin, q_neg, q_nt, q_and, q_or, q_cmp, q_chain, q_ife, q_call, q_new, q_meth, q_bi, q_bm, q_attr, q_ix, q_sl, q_rev, e_tup, q_lst, e_dct0, q_dctk, q_isi, q_rng1, q_rng2, e_nil, q_cons, q_kv, k_E2, k_Bin, k_Cmp, k_Ix, k_Cons, k_Rng2, k_Kv1, k_Kv, k_Neg, k_Nt, k_And, i_And, i_AndF, k_Or, i_Or, i_OrF, k_Ife, i_Ife, i_IfeF, k_Ch, k_Ch1, i_Ch, i_ChF, k_Call, k_New, k_New1, k_Me, k_Me1, k_Me2, k_Bi, k_Bm, k_Bm1, k_Bm2, k_Opt, k_Bl, k_NBl, k_At, k_At1, k_Int, k_Sl, k_Sl1, k_Sl2, ev_t, ev_f, isNo, k_Rev, k_Rev1, k_Lst, k_Dct, k_Dct1, k_Dct2, k_Isi, k_Rng1, g_eq, g_ne, g_in, g_nin, g_ixT, g_ixR, k_ItmL, k_ItmD, k_ItK, w_keyI, w_keyS, g_slR, k_Lst1, g_addL, k_AddL, g_mulL, k_MulL, g_lenR, k_LenL, k_LenF, k_LenD, g_listR, k_SeqLL, k_SeqLF, g_tupR, k_SeqTL, k_SeqTF, g_app, k_App, g_ins, k_Ins, g_clr, k_Clr, g_pop, k_PopL, k_PopD, k_Pop1, k_Pop2, k_PopD1, g_get, k_GetI, k_GetS, h_Seq, h_End, h_Drop, h_Set, h_SA, h_SA1, h_SA2, h_SI, h_SI1, h_SI2, h_SI3, h_SI3D, h_SI3S, h_SIl, h_Env, h_ST, h_Par, h_Ite, i_Ite, i_IteF, h_Turn, h_zE, varP_some, put_get, put_ne, put_next, new_get, new_ne, new_at, new_next, b_add, b_sub, b_mul, b_div, b_mod, b_addS, b_addT, c_lt, c_le, c_gt, c_ge, c_is, c_isn, eq_int, eq_str, eq_bl, eq_si, eq_is, eq_nn, eq_ni, eq_in, eq_ref, nodL_l, nodL_f, eqN_s, eqLs_ints, eqLs_ints0, eqLs_nn, eqLs_c0, i_str, s_tup, s_str, at_nat, ix_nat, at_last', implies_true, not_true_eq_false, not_false_eq_true, Int.toNat_zero, Int.toNat_one, Int.reduceToNat, List.length_cons, List.length_nil, List.length_map, List.length_append, List.length_set, List.eraseIdx_cons_zero, f_lenT, f_lenS, f_listT, f_intI, f_intD, f_minI, f_maxI, f_str, kd_ref, kd_str', kdP_lst, kdP_dct, fitK, isi_non, isi_int, isi_bl, isi_str, isi_tup, isi_ref, isiN_l, isiN_f, isiN_d, tyI, tyB, tySt, tyT, tyL, isN, h_Pur, pT_t, pT_f, isQ_i, wipe_nil, wipe_cons, new_put, put_put, Int.toNat_natCast, val_same, cut2_1, fld, putf, if_true, if_false, eq_self, take_one, take_tup, setAll_nil, setAll_cons, List.getElem?_cons_zero, List.getElem?_cons_succ, List.set_cons_zero, List.set_cons_succ, List.map_cons, List.map_nil, List.cons_append, List.nil_append, decide_eq_true_eq, Bool.false_eq_true, true_and, and_true, Bool.not_true, Bool.not_false, Bool.not_eq_true', decide_eq_false_iff_not, reduceCtorEq])
/-! ### with no program in sight -/
theorem moved_len : ∀ {os gs : List Int}, os.length = gs.length → (((List.range os.length).filter fun k => decide (¬ os[k]? = gs[k]?)).length : Int) = os.length - kp os gs
  | [], [], _ => rfl
  | [], _ :: _, h => by simp at h
  | _ :: _, [], h => by simp at h
  | o :: os, g :: gs, h => by
    have ih := moved_len (os := os) (gs := gs) (by simpa using h)
    rw [List.length_cons, List.range_succ_eq_map, List.filter_cons, List.filter_map]
    have e : ((List.range os.length).filter ((fun k => decide (¬ (o :: os)[k]? = (g :: gs)[k]?)) ∘ Nat.succ)) = (List.range os.length).filter fun k => decide (¬ os[k]? = gs[k]?) := List.filter_congr fun k _ => by simp
    rw [e]
    simp only [kp]
    by_cases q : o = g
    · subst q
      rw [b01_t rfl, if_neg (by simp), List.length_map]; omega
    · rw [b01_f q, if_pos (by simp [q]), List.length_cons, List.length_map]; omega
/-- rows that are not whole yet -/
def cn (fo : List (Option Int)) (x : Option Int) : Int := (fo.count x : Int)
theorem cn_cons {y x : Option Int} {fo : List (Option Int)} : cn (y :: fo) x = cn fo x + b01 (y = x) := by
  unfold cn
  rw [List.count_cons]
  by_cases e : y = x
  · rw [b01_t e, if_pos (by simpa using e)]; omega
  · rw [b01_f e, if_neg (by simpa using e)]; omega
theorem cn_nn {fo : List (Option Int)} {x : Option Int} : 0 ≤ cn fo x := by unfold cn; omega
theorem cn_set : ∀ {fo : List (Option Int)} {k : Nat} {x : Int} {y : Option Int}, fo[k]? = some none → cn (fo.set k (some x)) y = cn fo y + b01 (some x = y) - b01 (none = y)
  | [], _, _, _, h => by simp at h
  | a :: fo, 0, x, y, h => by
    simp only [List.getElem?_cons_zero, Option.some.injEq] at h
    subst h
    rw [List.set_cons_zero, cn_cons, cn_cons]; omega
  | a :: fo, k + 1, x, y, h => by
    rw [List.set_cons_succ, cn_cons, cn_cons, cn_set (by simpa using h)]; omega
theorem cn_none {hs : List Int} (nd : hs.Nodup) : ∀ {fo : List (Option Int)}, (∀ x, some x ∈ fo → x ∈ hs) → (hs.map fun h => cn fo (some h)).sum + cn fo none = fo.length
  | [], _ => by
    have z : ∀ l : List Int, (l.map fun h => cn [] (some h)).sum = 0 := fun l => by
      induction l with
      | nil => rfl
      | cons a l ih => rw [List.map_cons, List.sum_cons, ih]; simp [cn]
    rw [z]; simp [cn]
  | none :: fo, h => by
    have ih := cn_none nd (fo := fo) fun x m => h x (List.mem_cons_of_mem _ m)
    have e : (hs.map fun h => cn (none :: fo) (some h)) = hs.map fun h => cn fo (some h) := List.map_congr_left fun k _ => by rw [cn_cons, b01_f (by simp)]; omega
    rw [e, cn_cons, b01_t rfl, List.length_cons]; omega
  | some x :: fo, h => by
    have ih := cn_none nd (fo := fo) fun x m => h x (List.mem_cons_of_mem _ m)
    have e : (hs.map fun h => cn (some x :: fo) (some h)) = hs.map (up1 (fun h => cn fo (some h)) x 1) := List.map_congr_left fun k _ => by
      rw [cn_cons]
      simp only [up1]
      by_cases q : k = x
      · subst q; rw [if_pos rfl, b01_t rfl]
      · rw [if_neg q, b01_f fun z => q (by injection z with z; exact z.symm)]; omega
    have := (sum_upd (u := fun h => cn fo (some h)) (h := x) (d := 1) nd).2 (h x List.mem_cons_self)
    rw [e, this, cn_cons, b01_f (by simp), List.length_cons]; omega
/-- what is left beside what is there -/
structure EV (hs : List Int) (n u : Int → Int) (fo : List (Option Int)) : Prop where
  len : fo.length = 12
  mem : ∀ x, some x ∈ fo → x ∈ hs
  cnt : ∀ h ∈ hs, cn fo (some h) + u h = n h ∧ 0 ≤ u h
theorem EV.set {hs : List Int} {n u : Int → Int} {fo : List (Option Int)} (h : EV hs n u fo) {k : Nat} {x : Int} (hk : fo[k]? = some none) (mx : x ∈ hs) (ux : 0 < u x) : EV hs n (up1 u x (-1)) (fo.set k (some x)) := by
  refine ⟨by rw [List.length_set]; exact h.len, fun y m => ?_, fun y m => ?_⟩
  · rcases List.mem_or_eq_of_mem_set m with m | m
    · exact h.mem y m
    · injection m with m; rw [m]; exact mx
  · obtain ⟨c1, c2⟩ := h.cnt y m
    rw [cn_set hk, b01_f (p := (none : Option Int) = some y) (by simp)]
    unfold up1
    by_cases q : y = x
    · subst q; rw [if_pos rfl, b01_t rfl]; omega
    · rw [if_neg q, b01_f fun z => q (by injection z with z; exact z.symm)]; omega
theorem EV.sum {hs : List Int} {n u : Int → Int} {fo : List (Option Int)} (h : EV hs n u fo) (nd : hs.Nodup) (hs' : (hs.map n).sum = 12) : (hs.map u).sum = cn fo none := by
  have c := cn_none nd h.mem
  rw [h.len] at c
  have key : ∀ l : List Int, (∀ k ∈ l, cn fo (some k) + u k = n k) → (l.map fun h => cn fo (some h)).sum + (l.map u).sum = (l.map n).sum := fun l => by
    induction l with
    | nil => intro _; rfl
    | cons a l ih =>
      intro q
      have := ih fun k m => q k (List.mem_cons_of_mem _ m)
      have := q a List.mem_cons_self
      simp only [List.map_cons, List.sum_cons]; omega
  have := key hs fun k m => (h.cnt k m).1
  omega
theorem sum_pos : ∀ {hs : List Int} {u : Int → Int}, 0 < (hs.map u).sum → ∃ h ∈ hs, 0 < u h
  | [], u, h => by simp at h
  | a :: l, u, h => by
    by_cases q : 0 < u a
    · exact ⟨a, List.mem_cons_self, q⟩
    · rw [List.map_cons, List.sum_cons] at h
      obtain ⟨x, m, p⟩ := sum_pos (hs := l) (u := u) (by omega)
      exact ⟨x, List.mem_cons_of_mem _ m, p⟩
theorem cn_pos {fo : List (Option Int)} {k : Nat} (h : fo[k]? = some none) : 0 < cn fo none := by
  have := List.count_pos_iff.mpr (List.mem_of_getElem? h)
  unfold cn; omega
theorem EV.whole {hs : List Int} {n u : Int → Int} {fo : List (Option Int)} (h : EV hs n u fo) (nd : hs.Nodup) (hs' : (hs.map n).sum = 12) (a : ∀ k < 12, fo[k]? ≠ some none) : ∃ g : List Int, fo = g.map some ∧ g.length = 12 ∧ (∀ x ∈ g, x ∈ hs) ∧ ∀ y ∈ hs, ct g y = n y := by
  have ex : ∀ fo : List (Option Int), (∀ k < fo.length, fo[k]? ≠ some none) → ∃ g : List Int, fo = g.map some := fun fo => by
    induction fo with
    | nil => intro _; exact ⟨[], rfl⟩
    | cons x fo ih =>
      intro q
      obtain ⟨g, e⟩ := ih fun k hk => by
        have := q (k + 1) (by simpa using hk)
        simpa using this
      cases x with
      | none => exact absurd rfl (q 0 (by simp))
      | some x => exact ⟨x :: g, by rw [e]; rfl⟩
  obtain ⟨g, e⟩ := ex fo fun k hk => a k (by rw [h.len] at hk; exact hk)
  have hc : ∀ (g : List Int) (y : Int), cn (g.map some) (some y) = ct g y := fun g y => by
    induction g with
    | nil => rfl
    | cons x g ih => rw [List.map_cons, cn_cons, ct_cons, ih]; congr 1; exact b01_c (by simp)
  have s0 := h.sum nd hs'
  have z0 : cn fo none = 0 := by
    unfold cn
    have : fo.count none = 0 := List.count_eq_zero.mpr fun m => by
      rw [e] at m
      obtain ⟨x, _, q⟩ := List.mem_map.mp m
      cases q
    omega
  have uz : ∀ y ∈ hs, u y = 0 := fun y m => by
    by_cases q : u y = 0
    · exact q
    · have c := (h.cnt y m).2
      have : ∀ l : List Int, y ∈ l → (∀ k ∈ l, 0 ≤ u k) → 0 < (l.map u).sum := fun l => by
        induction l with
        | nil => intro m; simp at m
        | cons a l ih =>
          intro m q2
          have nn : ∀ l : List Int, (∀ k ∈ l, 0 ≤ u k) → 0 ≤ (l.map u).sum := fun l => by
            induction l with
            | nil => simp
            | cons b l ih => intro q; have := ih fun k m => q k (List.mem_cons_of_mem _ m); have := q b List.mem_cons_self; simp only [List.map_cons, List.sum_cons]; omega
          have s1 := nn l fun k m => q2 k (List.mem_cons_of_mem _ m)
          have s2 := q2 a List.mem_cons_self
          rw [List.map_cons, List.sum_cons]
          rcases List.mem_cons.mp m with e | m
          · subst e; omega
          · have := ih m fun k m => q2 k (List.mem_cons_of_mem _ m); omega
      have := this hs m fun k m => (h.cnt k m).2
      omega
  refine ⟨g, e, by have := h.len; rw [e, List.length_map] at this; exact this, fun x m => h.mem x (by rw [e]; exact List.mem_map.mpr ⟨x, m, rfl⟩), fun y m => ?_⟩
  have := (h.cnt y m).1
  rw [uz y m, e, hc] at this
  omega
/-- a choice as it is drawn, and as it stands in its houses' turn -/
theorem drawn_choice {hs more rem : List Int} {ov : Nat} (nd : hs.Nodup) (p : (more ++ rem).Perm hs) (hl : more.length = ov) : ∃ M ∈ chs hs ov, ∀ sh : Int, ∀ h ∈ hs, tg sh M h = sh + b01 (h ∈ more) := by
  have nd2 : (more ++ rem).Nodup := p.nodup_iff.mpr nd
  obtain ⟨n1, n2, n3⟩ := List.nodup_append.mp nd2
  refine ⟨hs.filter fun x => decide (x ∈ more), mem_chs.mpr ⟨List.filter_sublist, ?_⟩, fun sh h m => ?_⟩
  · have q := p.filter fun x => decide (x ∈ more)
    rw [← q.length_eq, List.filter_append, List.filter_eq_self.mpr fun x m => by simpa using m, List.filter_eq_nil_iff.mpr fun x m => by simpa using fun z => n3 x z x m rfl, List.append_nil, hl]
  · unfold tg
    congr 1
    exact b01_c (by simp [m])
/-! ### walks -/
theorem moved_ok {T : Tab} (hT : T (.fn .n_law_moved) = some b_law_moved) {k : Nat} {os gs : List Int} {S : Sto} {Z : PZ} (ol : os.length = 12) (gl : gs.length = 12) :
    (run T (k + 1) (.fn .n_law_moved) [.tup (os.map .int), .tup (gs.map .int)] S).wp (intQ (12 - kp os gs) S) Z := by
  have hlim : lim = 16000000 := rfl
  refine run_q hT rfl ?_
  show (exec (run T k) b_law_moved.body [some (.tup (os.map .int)), some (.tup (gs.map .int)), none] S).wp _ _ _
  unfold b_law_moved
  dsimp only
  x_go
  refine y_lc ?_
  x_go
  refine ⟨by omega, ?_⟩
  refine lc_tmap_i (l := List.range 12) (fun k => .int (0 + (k : Int))) (fun k => decide (¬ os[k]? = gs[k]?)) (fun k => .int (0 + (k : Int))) (by rw [List.length_range]; omega) (fun a acc ma => ?_) ?_
  · have ha := List.mem_range.mp ma
    have e1 : os[a]? = some os[a] := List.getElem?_eq_getElem (by omega)
    have e2 : gs[a]? = some gs[a] := List.getElem?_eq_getElem (by omega)
    have h1 : (os.map W.int)[a]? = some (.int os[a]) := by rw [List.getElem?_map, e1]; rfl
    have h2 : (gs.map W.int)[a]? = some (.int gs[a]) := by rw [List.getElem?_map, e2]; rfl
    have i1 : (0 + (a : Int)).toNat = a := by omega
    generalize os[a] = x at *
    generalize gs[a] = y at *
    x_go
    by_cases q : x = y <;> simp [q]
  · have e := moved_len (os := os) (gs := gs) (by omega)
    rw [ol] at e
    x_go
    exact ⟨rfl, Fr.refl.nw⟩
theorem lt_pair {S : Sto} {a b : Int} {xs ys : List Int} : ltD S (.tup [.int a, .tup (xs.map .int)]) (.tup [.int b, .tup (ys.map .int)]) = some (decide (a < b) || (decide (a = b) && ltL xs ys)) := by
  have d1 : ∀ (a : Int) (xs : List Int), dat S 0 (.tup [.int a, .tup (xs.map .int)]) = some (.tuple [.int a, dI xs]) := fun a xs => by
    simp only [dat, dats, dats_int, Option.map_some]; rfl
  have al : PySem.W.alike (.tuple [.int a, dI xs]) (.tuple [.int b, dI ys]) = true := by
    rw [PySem.W.alike, PySem.W.alikeAll, PySem.W.alikeAll, dI_alike]; rfl
  have dp : ∀ (a : Int) (xs : List Int), PyData.depth (.tuple [.int a, dI xs]) ≤ 9 := fun a xs => by
    have : (dI xs).depth = 1 := by unfold dI; rw [PyData.depth, dep_ints]
    rw [PyData.depth, PyData.depthAll, PyData.depthAll, PyData.depthAll, this, PyData.depth]; decide
  unfold ltD
  rw [d1, d1]
  dsimp only
  rw [if_pos (by rw [al, decide_eq_true (dp a xs)]; rfl), PySem.W.dataLt_pair rfl (dI_alike xs ys), dI_lt, PySem.W.dataLt_int]
  congr 1
  by_cases q : a = b
  · subst q
    rw [if_pos (by simp [PyData.eqv])]
    by_cases z : PyData.eqv (dI xs) (dI ys) = true
    · rw [if_pos z]
      have e : xs = ys := by
        have := (eqv_iv (S := S) (S' := S) (j := 0) (j' := 0) (k := 9) (v := .tup (xs.map .int)) (w := .tup (ys.map .int)) (by simp [iv, ivs_ints]) (by simp [iv, ivs_ints]) (by simp only [dat, dats_int, Option.map_some]; rfl) (by simp only [dat, dats_int, Option.map_some]; rfl)).mp z
        injection this with this
        exact int_map_inj.mp this
      subst e
      simp [ltL_irr]
    · rw [if_neg z]; simp
  · rw [if_neg (by simp [PyData.eqv, q])]; simp [q]
end D
end

section
/-! The law of rows of changes: rows that are drawn, walked. -/
namespace D
open PySem L2
local macro_rules | `(tactic| x_go) => `(tactic| simp (disch := first | assumption | omega | ((simp only [new_next, put_next]) <;> omega) | fail) only [*, k_SortL, cut_mid, g_sorted, map_erase, beq_self_eq_true, Bool.true_eq_false, g_ext, g_sum, k_SumI, k_SumM, g_min, k_MinI, g_max, k_MaxI, g_dictR, k_DictD, f_lrng, kd_tup', g_cntT, in_refI, inD_l, inD_d, cut_from, cut_from1, h_LcT, eq_tI, int_beq, x_nil, y_cons, x_pass, y_ex, y_set, y_setA, y_setI, y_setT, y_par, y_ite, y_ret, x_retN, x_rse, y_tri, y_forE, y_turn, e_var, e_int, e_bl, e_non, e_str, e_gi, e_gs, q_bin, q_neg, q_nt, q_and, q_or, q_cmp, q_chain, q_ife, q_call, q_new, q_meth, q_bi, q_bm, q_attr, q_ix, q_sl, q_rev, e_tup, q_lst, e_dct0, q_dctk, q_isi, q_rng1, q_rng2, e_nil, q_cons, q_kv, k_E2, k_Bin, k_Cmp, k_Ix, k_Cons, k_Rng2, k_Kv1, k_Kv, k_Neg, k_Nt, k_And, i_And, i_AndF, k_Or, i_Or, i_OrF, k_Ife, i_Ife, i_IfeF, k_Ch, k_Ch1, i_Ch, i_ChF, k_Call, k_New, k_New1, k_Me, k_Me1, k_Me2, k_Bi, k_Bm, k_Bm1, k_Bm2, k_Opt, k_Bl, k_NBl, k_At, k_At1, k_Int, k_Sl, k_Sl1, k_Sl2, ev_t, ev_f, isNo, k_Rev, k_Rev1, k_Lst, k_Dct, k_Dct1, k_Dct2, k_Isi, k_Rng1, g_eq, g_ne, g_in, g_nin, g_ixT, g_ixR, k_ItmL, k_ItmD, k_ItK, w_keyI, w_keyS, g_slR, k_Lst1, g_addL, k_AddL, g_mulL, k_MulL, g_lenR, k_LenL, k_LenF, k_LenD, g_listR, k_SeqLL, k_SeqLF, g_tupR, k_SeqTL, k_SeqTF, g_app, k_App, g_ins, k_Ins, g_clr, k_Clr, g_pop, k_PopL, k_PopD, k_Pop1, k_Pop2, k_PopD1, g_get, k_GetI, k_GetS, h_Seq, h_End, h_Drop, h_Set, h_SA, h_SA1, h_SA2, h_SI, h_SI1, h_SI2, h_SI3, h_SI3D, h_SI3S, h_SIl, h_Env, h_ST, h_Par, h_Ite, i_Ite, i_IteF, h_Turn, h_zE, varP_some, put_get, put_ne, put_next, new_get, new_ne, new_at, new_next, b_add, b_sub, b_mul, b_div, b_mod, b_addS, b_addT, c_lt, c_le, c_gt, c_ge, c_is, c_isn, eq_int, eq_str, eq_bl, eq_si, eq_is, eq_nn, eq_ni, eq_in, eq_ref, nodL_l, nodL_f, eqN_s, eqLs_ints, eqLs_ints0, eqLs_nn, eqLs_c0, i_str, s_tup, s_str, at_nat, ix_nat, at_last', implies_true, not_true_eq_false, not_false_eq_true, Int.toNat_zero, Int.toNat_one, Int.reduceToNat, List.length_cons, List.length_nil, List.length_map, List.length_append, List.length_set, List.eraseIdx_cons_zero, f_lenT, f_lenS, f_listT, f_intI, f_intD, f_minI, f_maxI, f_str, kd_ref, kd_str', kdP_lst, kdP_dct, fitK, isi_non, isi_int, isi_bl, isi_str, isi_tup, isi_ref, isiN_l, isiN_f, isiN_d, tyI, tyB, tySt, tyT, tyL, isN, h_Pur, pT_t, pT_f, isQ_i, wipe_nil, wipe_cons, new_put, put_put, Int.toNat_natCast, val_same, cut2_1, fld, putf, if_true, if_false, eq_self, take_one, take_tup, setAll_nil, setAll_cons, List.getElem?_cons_zero, List.getElem?_cons_succ, List.set_cons_zero, List.set_cons_succ, List.map_cons, List.map_nil, List.cons_append, List.nil_append, decide_eq_true_eq, Bool.false_eq_true, true_and, and_true, Bool.not_true, Bool.not_false, Bool.not_eq_true', decide_eq_false_iff_not, reduceCtorEq])
theorem pops_ok {T : Tab} (hT : T (.fn .n_law_take) = some b_law_take) {k b l L vL vB kk : Nat} {base : List Int} {m : Nat} {σ : Env} {S S0 : Sto} {Q : PQ} {Z : PZ} (g : LB S b l L base) (hm : m ≤ base.length) (hb : base.length ≤ 100)
    (hL : ∀ v : W, ((σ.set kk none).set kk (some v))[vL]? = some (some (.ref L))) (hB : ∀ v : W, ((σ.set kk none).set kk (some v))[vB]? = some (some (.ref b)))
    (q : ∀ S' xs rem, S'.get S.next = some (.lst (xs.map .int)) → (xs ++ rem).Perm base → xs.length = m → LB S' b l L rem → Fr [b, l, L] S S' → S.next < S'.next → Q (.ref S.next) S') :
    kLc (run T (k + 1)) σ Q Z [kk] true (.bm .pop (.var vL) (.cons (.call .n_law_take (.cons (.var vB) (.cons (.bi .len (.cons (.var vL) .nil)) .nil))) .nil)) .no S0 (.tup (rangeW 0 (m : Int))) S := by
  have hlim : lim = 16000000 := rfl
  have bL : b < S.next ∧ l < S.next ∧ L < S.next := by obtain ⟨⟨x, ns, B⟩, _, lL, _⟩ := g; exact ⟨B.lb, B.ll, lL⟩
  refine lc_rng_inv (n := (m : Int)) (fun j acc S3 => ∃ xs rem, acc = xs.map .int ∧ LB S3 b l L rem ∧ (xs ++ rem).Perm base ∧ xs.length = j ∧ S.next < S3.next ∧ Fr [b, l, L] S S3) (by omega) ⟨[], base, rfl, g.fr Fr.refl.nw, .refl _, rfl, Nat.lt_succ_self _, Fr.refl.nwA⟩ (fun j acc S3 hj ha hD ⟨xs, rem, ea, g3, pm, lx, l3, f3⟩ => ?_) (fun acc S3 ha hD ⟨xs, rem, ea, g3, pm, lx, l3, f3⟩ => ?_)
  · have hrl := g3.hL
    have lr : rem.length + j = base.length := by
      have := pm.length_eq
      rw [List.length_append, lx] at this; omega
    x_go
    refine R.wp_mono (take_lb hT g3 (by omega)) (fun v S4 ⟨r, ev, hr, g4, f4⟩ => ?_) (fun _ _ z => z)
    subst ev
    have hr' : r < rem.length := by omega
    have hw : (rem.map W.int)[r]? = some (.int rem[r]) := by rw [List.getElem?_map, List.getElem?_eq_getElem hr']; rfl
    have st : (xs ++ [rem[r]] ++ rem.eraseIdx r).Perm base := by
      rw [List.append_assoc]
      exact ((erase_perm hr').append_left xs).trans pm
    have hD4 := (f4.eq S.next l3 (by simp; omega)).trans hD
    generalize rem[r] = y at hw st
    clear hrl
    have hrl := g4.hL
    have ne2 : L ≠ S.next := by omega
    x_go
    refine ⟨by omega, xs ++ [y], rem.eraseIdx r, by simp [ea], g4.putL.put (by omega), st, by simp [lx], by have := f4.le; omega, ?_⟩
    have f5 := f3.trans f4 (fun n hn hx => by simp at hx ⊢; omega)
    have f6 : Fr [L] S4 (S4.put L (.lst ((rem.eraseIdx r).map W.int))) := ⟨Nat.le_refl _, fun n hn hx => put_ne (by simpa using hx)⟩
    have f7 : ∀ (S5 : Sto) (d : Nd), Fr [S.next] S5 (S5.put S.next d) := fun S5 d => ⟨Nat.le_refl _, fun n hn hx => put_ne (by simpa using hx)⟩
    exact (f5.trans f6 (fun n hn hx => by simp at hx ⊢; omega)).trans (f7 _ _) (fun n hn hx => by simp at hx; omega)
  · subst ea
    exact q S3 xs rem hD pm (by rw [lx]; simp) g3 f3 l3
/-- what stands while a row is drawn -/
structure ES (S S' : Sto) (b l n D F O : Nat) (hs od : List Int) (u : Int → Int) (fo : List (Option Int)) : Prop where
  g : LB S' b l n hs
  hD : S'.get D = some (.dct false (kv hs u))
  hF : S'.get F = some (.lst (fo.map optW))
  hO : S'.get O = some (.lst (od.map .int))
  lt : D < S'.next ∧ F < S'.next ∧ O < S'.next
  nw : S.next ≤ D ∧ S.next ≤ F ∧ S.next ≤ O
  ne : D ≠ F ∧ D ≠ O ∧ F ≠ O
  old : b < S.next ∧ l < S.next ∧ n < S.next
  fr : Fr [b, l] S S'
theorem ES.frb {S S' S2 : Sto} {b l n D F O : Nat} {hs od : List Int} {u : Int → Int} {fo : List (Option Int)} (e : ES S S' b l n D F O hs od u fo) (g2 : LB S2 b l n hs) (f : Fr [b, l] S' S2) : ES S S2 b l n D F O hs od u fo := by
  obtain ⟨g, hD, hF, hO, ⟨l1, l2, l3⟩, nw, ne, old, fr⟩ := e
  exact ⟨g2, (f.eq D l1 (by simp; omega)).trans hD, (f.eq F l2 (by simp; omega)).trans hF, (f.eq O l3 (by simp; omega)).trans hO, by have := f.le; omega, nw, ne, old, fr.trans f (fun _ _ h => h)⟩
theorem ES.nwE {S S' : Sto} {b l n D F O : Nat} {hs od : List Int} {u : Int → Int} {fo : List (Option Int)} {d : Nd} (e : ES S S' b l n D F O hs od u fo) : ES S (S'.new d) b l n D F O hs od u fo := e.frb (e.g.fr Fr.refl.nw) Fr.refl.nwA
theorem ES.putD {S S' : Sto} {b l n D F O : Nat} {hs od : List Int} {u v : Int → Int} {fo : List (Option Int)} (e : ES S S' b l n D F O hs od u fo) : ES S (S'.put D (.dct false (kv hs v))) b l n D F O hs od v fo := by
  obtain ⟨g, hD, hF, hO, lt, nw, ne, old, fr⟩ := e
  exact ⟨g.put (by omega), put_get, (put_ne (by omega)).trans hF, (put_ne (by omega)).trans hO, lt, nw, ne, old, fr.trans (B := [D]) ⟨Nat.le_refl _, fun m hm hx => put_ne (by simpa using hx)⟩ (fun m hm hx => by simp at hx; omega)⟩
theorem ES.putF {S S' : Sto} {b l n D F O : Nat} {hs od : List Int} {u : Int → Int} {fo fo' : List (Option Int)} (e : ES S S' b l n D F O hs od u fo) : ES S (S'.put F (.lst (fo'.map optW))) b l n D F O hs od u fo' := by
  obtain ⟨g, hD, hF, hO, lt, nw, ne, old, fr⟩ := e
  exact ⟨g.put (by omega), (put_ne (by omega)).trans hD, put_get, (put_ne (by omega)).trans hO, lt, nw, ne, old, fr.trans (B := [F]) ⟨Nat.le_refl _, fun m hm hx => put_ne (by simpa using hx)⟩ (fun m hm hx => by simp at hx; omega)⟩
def evI1 (os hs od : List Int) (n : Int → Int) (b l nn D F O : Nat) (S : Sto) (j : Nat) : PN := fun σ S' => ∃ (o3 o4 o5 o6 o10 o11 o12 : Option W) (u : Int → Int) (fo : List (Option Int)), σ = [some (.ref b), some (.ref nn), some (.tup (os.map .int)), o3, o4, o5, o6, some (.ref D), some (.ref F), some (.ref O), o10, o11, o12] ∧
  ES S S' b l nn D F O hs od u fo ∧ EV hs n u fo ∧ ∀ (i : Nat) (x : Int), fo[i]? = some (some x) → (i : Int) ∈ od.take j
theorem evI1_i {os hs od : List Int} {n : Int → Int} {b l nn D F O : Nat} {S S' : Sto} {j : Nat} {o3 o4 o5 o6 o10 o11 o12 : Option W} {u : Int → Int} {fo : List (Option Int)} (e : ES S S' b l nn D F O hs od u fo) (v : EV hs n u fo) (h : ∀ (i : Nat) (x : Int), fo[i]? = some (some x) → (i : Int) ∈ od.take j) :
    evI1 os hs od n b l nn D F O S j [some (.ref b), some (.ref nn), some (.tup (os.map .int)), o3, o4, o5, o6, some (.ref D), some (.ref F), some (.ref O), o10, o11, o12] S' := ⟨o3, o4, o5, o6, o10, o11, o12, u, fo, rfl, e, v, h⟩
def evI2 (os hs od : List Int) (n : Int → Int) (b l nn D F O : Nat) (S : Sto) (j : Nat) : PN := fun σ S' => ∃ (o3 o4 o5 o6 o10 o11 o12 : Option W) (u : Int → Int) (fo : List (Option Int)), σ = [some (.ref b), some (.ref nn), some (.tup (os.map .int)), o3, o4, o5, o6, some (.ref D), some (.ref F), some (.ref O), o10, o11, o12] ∧
  ES S S' b l nn D F O hs od u fo ∧ EV hs n u fo ∧ ∀ i : Nat, (i : Int) ∈ od.take j → fo[i]? ≠ some none
theorem evI2_i {os hs od : List Int} {n : Int → Int} {b l nn D F O : Nat} {S S' : Sto} {j : Nat} {o3 o4 o5 o6 o10 o11 o12 : Option W} {u : Int → Int} {fo : List (Option Int)} (e : ES S S' b l nn D F O hs od u fo) (v : EV hs n u fo) (h : ∀ i : Nat, (i : Int) ∈ od.take j → fo[i]? ≠ some none) :
    evI2 os hs od n b l nn D F O S j [some (.ref b), some (.ref nn), some (.tup (os.map .int)), o3, o4, o5, o6, some (.ref D), some (.ref F), some (.ref O), o10, o11, o12] S' := ⟨o3, o4, o5, o6, o10, o11, o12, u, fo, rfl, e, v, h⟩
def evQ (hs : List Int) (sh : Int) (ov b l : Nat) (S : Sto) : PQ := fun v S' => ∃ g, v = .tup (g.map .int) ∧ EvenRow hs sh ov g ∧ (∃ x ns, Box S' b l x ns) ∧ Fr [b, l] S S'
theorem mem_take {od : List Int} {j : Nat} {z y : Int} (h : od[j]? = some z) : y ∈ od.take (j + 1) ↔ y ∈ od.take j ∨ y = z := by
  rw [List.take_succ, h]; simp
theorem take_nd {od : List Int} {j : Nat} {z : Int} (nd : od.Nodup) (h : od[j]? = some z) : z ∉ od.take j := fun m => by
  obtain ⟨i, hi, e⟩ := List.mem_iff_getElem.mp m
  rw [List.getElem_take] at e
  have hi' : i < j := by rw [List.length_take] at hi; omega
  have hj := lt_of_get h
  have e2 : od[j] = z := by rw [List.getElem?_eq_getElem hj] at h; exact Option.some.inj h
  have := (List.nodup_iff_pairwise_ne.mp nd)
  exact (List.pairwise_iff_getElem.mp this i j (by omega) hj hi') (by rw [e, e2])
theorem rng12 : rangeW 0 12 = ((List.range 12).map fun (k : Nat) => (k : Int)).map .int := by
  rw [List.map_map]
  show (List.range 12).map _ = _
  exact List.map_congr_left fun k _ => by simp
theorem even_ok {T : Tab} (hT : T (.fn .n_law_even) = some b_law_even) (hK : T (.fn .n_law_take) = some b_law_take) {k b l nn : Nat} {hs os : List Int} {sh : Int} {ov : Nat} {S : Sto} {Z : PZ} (E : Even hs os sh ov) (g : LB S b l nn hs) :
    (run T (k + 2) (.fn .n_law_even) [.ref b, .ref nn, .tup (os.map .int)] S).wp (evQ hs sh ov b l S) Z := by
  have hlim : lim = 16000000 := rfl
  obtain ⟨pw, l0, l6, ol, es, eo⟩ := id E
  obtain ⟨s0, o6, e12⟩ := E.nums
  have nd : hs.Nodup := pw.imp fun h => by omega
  have old : b < S.next ∧ l < S.next ∧ nn < S.next := by obtain ⟨⟨x, ns, B⟩, _, lL, _⟩ := g; exact ⟨B.lb, B.ll, lL⟩
  refine run_q hT rfl ?_
  show (exec (run T (k + 1)) b_law_even.body [some (.ref b), some (.ref nn), some (.tup (os.map .int)), none, none, none, none, none, none, none, none, none, none] S).wp _ _ _
  unfold b_law_even
  dsimp only
  have hn := g.hL
  x_go
  refine ⟨by omega, by omega, ?_⟩
  have g1 : LB (S.new (.lst (hs.map .int))) b l S.next hs := by
    obtain ⟨⟨x, ns, B⟩, _, lL, _⟩ := g
    exact ⟨⟨x, ns, B.nw⟩, new_get, Nat.lt_succ_self _, by have := B.lb; have := B.ll; omega⟩
  have f1 : Fr [b, l] S (S.new (.lst (hs.map .int))) := Fr.refl.nwA
  have hn1 : (S.new (.lst (hs.map .int))).get nn = some (.lst (hs.map .int)) := (new_ne old.2.2).trans hn
  have x1 : (S.new (.lst (hs.map .int))).next = S.next + 1 := rfl
  generalize S.new (.lst (hs.map .int)) = S1 at g1 f1 hn1 x1
  clear hn
  refine y_lc ?_
  x_go
  refine ⟨by omega, ?_⟩
  refine pops_ok hK g1 o6 (by omega) (fun v => rfl) (fun v => rfl) fun S2 more rem hM pm lm g2 f2 x2 => ?_
  have hn2 := (f2.eq nn (by omega) (by have := g.ne; simp; omega)).trans hn1
  have lm2 : more.length ≤ 6 := by omega
  have n2 : nn < S2.next := by omega
  have f02 : Fr [b, l] S S2 := f1.trans f2 (fun n hn hx => by simp at hx ⊢; omega)
  have kd : ∀ Q S, kDictR Q S (some (.lst (hs.map fun h => W.tup [.int h, .int (sh + b01 (h ∈ more))]))) = Q (.ref S.next) (S.new (.dct false (kv hs fun h => sh + b01 (h ∈ more)))) := fun Q S => k_DictK (u := fun h => sh + b01 (h ∈ more)) nd
  generalize hM1 : S1.next = M at hM x2
  clear hn1
  x_go
  refine y_lc ?_
  x_go
  refine lc_all_i (l := hs) .int (fun h => .tup [.int h, .int (sh + b01 (h ∈ more))]) (by omega) (by x_go) (by omega) (fun h acc _ => by x_go) ?_
  x_go
  refine ⟨by omega, ?_⟩
  generalize hn0 : (fun h => sh + b01 (h ∈ more)) = n0 at *
  have hsn : (hs.map n0).sum = 12 := by
    obtain ⟨M0, m1, m2⟩ := drawn_choice nd pm lm
    obtain ⟨q1, q2⟩ := mem_chs.mp m1
    have := sum_tg (sh := sh) nd q1
    rw [List.map_congr_left (g := n0) fun h m => by rw [m2 sh h m, ← hn0]] at this
    omega
  have hnn : ∀ h ∈ hs, 0 ≤ n0 h := fun h _ => by rw [← hn0]; have := b01_b (p := h ∈ more); dsimp only; omega
  have row : ∀ g : List Int, g.length = 12 → (∀ x ∈ g, x ∈ hs) → (∀ y ∈ hs, ct g y = n0 y) → EvenRow hs sh ov g := fun g g1 g2 g3 => by
    obtain ⟨M0, m1, m2⟩ := drawn_choice nd pm lm
    exact ⟨g1, g2, M0, m1, fun h m => by rw [m2 sh h m, g3 h m, ← hn0]⟩
  generalize hA : S2.next = A at *
  have B2 := g2.box
  have gO : LB (((((S2.new (Nd.lst (List.map (fun h => W.tup [W.int h, W.int (sh + b01 (h ∈ more))]) hs))).new (Nd.dct false (kv hs n0))).new (Nd.lst [W.non])).new (Nd.lst (List.replicate 12 [W.non]).flatten)).new (Nd.lst (rangeW 0 12))) b l (A + 1 + 1 + 1 + 1) ((List.range 12).map fun (k : Nat) => (k : Int)) := by
    obtain ⟨x, ns, B⟩ := B2
    rw [rng12]
    exact ⟨⟨x, ns, B.nw.nw.nw.nw.nw⟩, by rw [← hA]; exact new_get, by simp only [new_next]; omega, by have := f02.le; omega⟩
  have e5n : (((((S2.new (Nd.lst (List.map (fun h => W.tup [W.int h, W.int (sh + b01 (h ∈ more))]) hs))).new (Nd.dct false (kv hs n0))).new (Nd.lst [W.non])).new (Nd.lst (List.replicate 12 [W.non]).flatten)).new (Nd.lst (rangeW 0 12))).next = A + 1 + 1 + 1 + 1 + 1 := by simp only [new_next]; omega
  have hn5 : (((((S2.new (Nd.lst (List.map (fun h => W.tup [W.int h, W.int (sh + b01 (h ∈ more))]) hs))).new (Nd.dct false (kv hs n0))).new (Nd.lst [W.non])).new (Nd.lst (List.replicate 12 [W.non]).flatten)).new (Nd.lst (rangeW 0 12))).get nn = some (.lst (hs.map .int)) := by
    rw [new_ne (by simp only [new_next]; omega), new_ne (by simp only [new_next]; omega), new_ne (by simp only [new_next]; omega), new_ne (by simp only [new_next]; omega), new_ne (by omega)]; exact hn2
  have hD5 : (((((S2.new (Nd.lst (List.map (fun h => W.tup [W.int h, W.int (sh + b01 (h ∈ more))]) hs))).new (Nd.dct false (kv hs n0))).new (Nd.lst [W.non])).new (Nd.lst (List.replicate 12 [W.non]).flatten)).new (Nd.lst (rangeW 0 12))).get (A + 1) = some (.dct false (kv hs n0)) := by
    rw [new_ne (by simp only [new_next]; omega), new_ne (by simp only [new_next]; omega), new_ne (by simp only [new_next]; omega), ← hA]; exact new_get
  have hF5 : (((((S2.new (Nd.lst (List.map (fun h => W.tup [W.int h, W.int (sh + b01 (h ∈ more))]) hs))).new (Nd.dct false (kv hs n0))).new (Nd.lst [W.non])).new (Nd.lst (List.replicate 12 [W.non]).flatten)).new (Nd.lst (rangeW 0 12))).get (A + 1 + 1 + 1) = some (.lst ((List.replicate 12 (none : Option Int)).map optW)) := by
    rw [new_ne (by simp only [new_next]; omega), ← hA]; exact new_get
  have f05 : Fr [b, l] S (((((S2.new (Nd.lst (List.map (fun h => W.tup [W.int h, W.int (sh + b01 (h ∈ more))]) hs))).new (Nd.dct false (kv hs n0))).new (Nd.lst [W.non])).new (Nd.lst (List.replicate 12 [W.non]).flatten)).new (Nd.lst (rangeW 0 12))) := f02.nwA.nwA.nwA.nwA.nwA
  generalize (((((S2.new (Nd.lst (List.map (fun h => W.tup [W.int h, W.int (sh + b01 (h ∈ more))]) hs))).new (Nd.dct false (kv hs n0))).new (Nd.lst [W.non])).new (Nd.lst (List.replicate 12 [W.non]).flatten)).new (Nd.lst (rangeW 0 12))) = S5 at gO e5n hn5 hD5 hF5 f05
  clear kd
  refine y_lc ?_
  x_go
  refine ⟨by omega, ?_⟩
  refine pops_ok (m := 12) hK gO (by simp) (by simp) (fun v => rfl) (fun v => rfl) fun S6 od rem2 hO pmo lo g6 f6 x6 => ?_
  have lA : S.next ≤ A := by have := f02.le; omega
  have nbl := g.ne
  have hn6 := (f6.eq nn (by omega) (by simp; omega)).trans hn5
  have hD6 := (f6.eq (A + 1) (by omega) (by simp; omega)).trans hD5
  have hF6 := (f6.eq (A + 1 + 1 + 1) (by omega) (by simp; omega)).trans hF5
  have le6 := f6.le
  have r2 : rem2 = [] := by
    have := pmo.length_eq
    rw [List.length_append, lo, List.length_map, List.length_range] at this
    exact List.eq_nil_of_length_eq_zero (by omega)
  subst r2
  rw [List.append_nil] at pmo
  have ndo : od.Nodup := pmo.nodup_iff.mpr (by decide)
  have mo : ∀ z ∈ od, ∃ k : Nat, z = (k : Int) ∧ k < 12 := fun z m => by
    obtain ⟨k, mk, e⟩ := List.mem_map.mp (pmo.mem_iff.mp m)
    exact ⟨k, e.symm, List.mem_range.mp mk⟩
  have om : ∀ k : Nat, k < 12 → (k : Int) ∈ od := fun k hk => pmo.mem_iff.mpr (List.mem_map.mpr ⟨k, List.mem_range.mpr hk, rfl⟩)
  have es0 : ES S S6 b l nn (A + 1) (A + 1 + 1 + 1) S5.next hs od n0 (List.replicate 12 none) :=
    ⟨⟨g6.box, hn6, by omega, nbl⟩, hD6, hF6, hO, by omega, by omega, by omega, old, f05.trans f6 (fun n hn hx => by simp at hx ⊢; omega)⟩
  have ev0 : EV hs n0 n0 (List.replicate 12 none) := ⟨rfl, fun x m => by simp at m, fun h m => ⟨by simp [cn], hnn h m⟩⟩
  generalize S5.next = O at *
  generalize A + 1 + 1 + 1 = F at *
  generalize A + 1 = D at *
  clear e5n hn5 hD5 hF5 hn6 hD6 hF6 hO gO g6 f6 f05 hM
  have hO := es0.hO
  x_go
  refine y_forL ?_
  x_go
  refine forL_ints (ns := od) (by x_go) (evI1 os hs od n0 b l nn D F O S) (evI1_i es0 ev0 (fun i x h => by have := List.mem_of_getElem? h; exact absurd (List.eq_of_mem_replicate this) (by simp))) (fun j σ S' hj ⟨o3, o4, o5, o6, o10, o11, o12, u, fo, e, q, _, _⟩ => by rw [q.hO]; rfl) (fun j z σ S' hz ⟨o3, o4, o5, o6, o10, o11, o12, u, fo, e, q, v, hv⟩ => ?_) (fun σ S' ⟨o3, o4, o5, o6, o10, o11, o12, u, fo, e, q, v, hv⟩ => ?_)
  · subst e
    obtain ⟨kz, ez, lz⟩ := mo z (List.mem_of_getElem? hz)
    have znot := take_nd ndo hz
    have mt := fun y => mem_take (y := y) hz
    subst ez
    have ho : os[kz]? = some os[kz] := List.getElem?_eq_getElem (by omega)
    have hwo : (os.map W.int)[kz]? = some (.int os[kz]) := by rw [List.getElem?_map, ho]; rfl
    generalize os[kz] = o at ho hwo
    have lf := v.len
    have hfk : fo[kz]? = some none := by
      cases e : fo[kz]? with
      | none => rw [List.getElem?_eq_none_iff] at e; omega
      | some y => cases y with
        | none => rfl
        | some x => exact absurd (hv kz x e) znot
    have hgt : ∃ w : Int, (valW (kv hs u) (.inl o)).getD (.int 0) = .int w ∧ (0 < w → o ∈ hs ∧ w = u o) := by
      by_cases m : o ∈ hs
      · exact ⟨u o, by rw [kv_val m]; rfl, fun _ => ⟨m, rfl⟩⟩
      · exact ⟨0, by rw [kv_out m]; rfl, fun h => absurd h (by omega)⟩
    obtain ⟨w, hw1, hw2⟩ := hgt
    have hD := q.hD
    clear hO
    have keep : evI1 os hs od n0 b l nn D F O S j = evI1 os hs od n0 b l nn D F O S j := rfl
    x_go
    refine sel_i (fun h1 => ?_) (fun h1 => ?_)
    · obtain ⟨mo2, ew⟩ := hw2 h1
      x_go
      refine R.wp_mono (take_lb hK q.g (by omega)) (fun vv S7 ⟨r, ev, hr, g7, f7⟩ => ?_) (fun _ _ z => z)
      subst ev
      have q7 := q.frb g7 f7
      have hF7 := q7.hF
      have hD7 := q7.hD
      have ne7 := q7.ne
      clear hD
      x_go
      refine sel_i (fun h2 => ?_) (fun h2 => ?_)
      · have hset : (fo.map optW).set kz (.int o) = (fo.set kz (some o)).map optW := by rw [List.map_set]; rfl
        have v1 := kv_val (u := u) mo2
        have v2 := kv_dn (u := u) mo2
        have hp : (S7.put F (.lst ((fo.set kz (some o)).map optW))).get D = _ := (put_ne (by omega)).trans hD7
        x_go
        refine ⟨by rw [kv_len]; omega, ?_⟩
        refine evI1_i q7.putF.putD (v.set hfk mo2 (by omega)) (fun i x h => ?_)
        rw [mt]
        by_cases e : i = kz
        · exact .inr (by rw [e])
        · rw [List.getElem?_set_ne (fun z => e z.symm)] at h
          exact .inl (hv i x h)
      · x_go
        exact evI1_i q7 v (fun i x h => (mt _).mpr (.inl (hv i x h)))
    · x_go
      exact evI1_i q v (fun i x h => (mt _).mpr (.inl (hv i x h)))
  · subst e
    clear hO hv
    have hO := q.hO
    x_go
    refine y_forL ?_
    x_go
    refine forL_ints (ns := od) (by x_go) (evI2 os hs od n0 b l nn D F O S) (evI2_i q v (by simp)) (fun j σ S' hj ⟨o3, o4, o5, o6, o10, o11, o12, u, fo, e, q, _, _⟩ => by rw [q.hO]; rfl) (fun j z σ S' hz ⟨o3, o4, o5, o6, o10, o11, o12, u, fo, e, q, v, hv⟩ => ?_) (fun σ S' ⟨o3, o4, o5, o6, o10, o11, o12, u, fo, e, q, v, hv⟩ => ?_)
    · subst e
      obtain ⟨kz, ez, lz⟩ := mo z (List.mem_of_getElem? hz)
      have mt := fun y => mem_take (y := y) hz
      subst ez
      have lf := v.len
      have hF := q.hF
      have hD := q.hD
      have hnl := q.g.hL
      have lnl := q.g.lL
      have ltq := q.lt
      have hy : fo[kz]? = some fo[kz] := List.getElem?_eq_getElem (by omega)
      have hwy : (fo.map optW)[kz]? = some (optW fo[kz]) := by rw [List.getElem?_map, hy]; rfl
      generalize fo[kz] = y at hy hwy
      clear hO
      cases y with
      | some x =>
        rw [optW_s] at hwy
        x_go
        refine evI2_i q v (fun i h => ?_)
        rcases (mt _).mp h with h | h
        · exact hv i h
        · have : i = kz := by omega
          rw [this, hy]; simp
      | none =>
        rw [optW_n] at hwy
        x_go
        refine y_lc ?_
        x_go
        refine lc_map_i (l := hs) .int (fun h => decide (0 < u h)) .int (by x_go) (by x_go) (by omega) (fun h acc mh => by have := kv_val (u := u) mh; x_go) ?_
        have fl : ∃ x ∈ hs, 0 < u x := sum_pos (by rw [v.sum nd hsn]; exact cn_pos hy)
        have lfl : 0 < (hs.filter fun h => decide (0 < u h)).length := by
          obtain ⟨x, m, p⟩ := fl
          exact List.length_pos_of_mem (List.mem_filter.mpr ⟨m, decide_eq_true p⟩)
        have lfl2 := List.length_filter_le (fun h => decide (0 < u h)) hs
        have mfl : ∀ x ∈ hs.filter (fun h => decide (0 < u h)), x ∈ hs ∧ 0 < u x := fun x m => by
          obtain ⟨a1, a2⟩ := List.mem_filter.mp m
          exact ⟨a1, of_decide_eq_true a2⟩
        generalize hs.filter (fun h => decide (0 < u h)) = fs at lfl lfl2 mfl
        have q1 := q.nwE (d := .lst (fs.map .int))
        have hA1 : (S'.new (.lst (fs.map .int))).get S'.next = some (.lst (fs.map .int)) := new_get
        have lA1 : S'.next < (S'.new (.lst (fs.map .int))).next := Nat.lt_succ_self _
        have leA := q.fr.le
        x_go
        generalize S'.new (.lst (fs.map .int)) = S7 at q1 hA1 lA1
        generalize S'.next = A1 at *
        clear hF hD hnl
        refine R.wp_mono (take_lb hK q1.g (by omega)) (fun vv S8 ⟨r, ev, hr, g8, f8⟩ => ?_) (fun _ _ z => z)
        subst ev
        have q8 := q1.frb g8 f8
        have hA8 := (f8.eq A1 lA1 (by have := q.old; simp; omega)).trans hA1
        have hr' : r < fs.length := by omega
        have hwr : (fs.map W.int)[r]? = some (.int fs[r]) := by rw [List.getElem?_map, List.getElem?_eq_getElem hr']; rfl
        obtain ⟨mx, ux⟩ := mfl fs[r] (List.getElem_mem hr')
        generalize fs[r] = x at hwr mx ux
        have hF8 := q8.hF
        have hD8 := q8.hD
        have ne8 := q8.ne
        have hset : (fo.map optW).set kz (.int x) = (fo.set kz (some x)).map optW := by rw [List.map_set]; rfl
        have v1 := kv_val (u := u) mx
        have v2 := kv_dn (u := u) mx
        have hp : (S8.put F (.lst ((fo.set kz (some x)).map optW))).get D = _ := (put_ne (by omega)).trans hD8
        have hg8 : ((fo.set kz (some x)).map optW)[kz]? = some (.int x) := by rw [List.getElem?_map, List.getElem?_set_self (by omega)]; rfl
        clear hA1
        x_go
        refine ⟨by rw [kv_len]; omega, ?_⟩
        refine evI2_i q8.putF.putD (v.set hy mx ux) (fun i h => ?_)
        rcases (mt _).mp h with h | h
        · by_cases e : i = kz
          · rw [e, List.getElem?_set_self (by omega)]; simp
          · rw [List.getElem?_set_ne (fun z => e z.symm)]; exact hv i h
        · have e : i = kz := by omega
          rw [e, List.getElem?_set_self (by omega)]; simp
    · subst e
      have hF := q.hF
      obtain ⟨gg, e1, e2, e3, e4⟩ := v.whole nd hsn (fun k hk => hv k (by rw [List.take_length]; exact om k hk))
      have e5 : fo.map optW = gg.map .int := by rw [e1, List.map_map]; rfl
      rw [e5] at hF
      clear hO
      x_go
      exact ⟨gg, rfl, row gg e2 e3 e4, q.g.box, q.fr⟩
end D
end

section
/-! The law of rows of changes. -/
namespace D
open PySem L2
local macro_rules | `(tactic| x_go) => `(tactic| simp (disch := first | assumption | omega | ((simp only [new_next, put_next]) <;> omega) | fail) only [*, k_SortL, cut_mid, g_sorted, map_erase, beq_self_eq_true, Bool.true_eq_false, g_ext, g_sum, k_SumI, k_SumM, g_min, k_MinI, g_max, k_MaxI, g_dictR, k_DictD, f_lrng, kd_tup', g_cntT, in_refI, inD_l, inD_d, cut_from, cut_from1, h_LcT, eq_tI, int_beq, x_nil, y_cons, x_pass, y_ex, y_set, y_setA, y_setI, y_setT, y_par, y_ite, y_ret, x_retN, x_rse, y_tri, y_forE, y_turn, e_var, e_int, e_bl, e_non, e_str, e_gi, e_gs, q_bin, q_neg, q_nt, q_and, q_or, q_cmp, q_chain, q_ife, q_call, q_new, q_meth, q_bi, q_bm, q_attr, q_ix, q_sl, q_rev, e_tup, q_lst, e_dct0, q_dctk, q_isi, q_rng1, q_rng2, e_nil, q_cons, q_kv, k_E2, k_Bin, k_Cmp, k_Ix, k_Cons, k_Rng2, k_Kv1, k_Kv, k_Neg, k_Nt, k_And, i_And, i_AndF, k_Or, i_Or, i_OrF, k_Ife, i_Ife, i_IfeF, k_Ch, k_Ch1, i_Ch, i_ChF, k_Call, k_New, k_New1, k_Me, k_Me1, k_Me2, k_Bi, k_Bm, k_Bm1, k_Bm2, k_Opt, k_Bl, k_NBl, k_At, k_At1, k_Int, k_Sl, k_Sl1, k_Sl2, ev_t, ev_f, isNo, k_Rev, k_Rev1, k_Lst, k_Dct, k_Dct1, k_Dct2, k_Isi, k_Rng1, g_eq, g_ne, g_in, g_nin, g_ixT, g_ixR, k_ItmL, k_ItmD, k_ItK, w_keyI, w_keyS, g_slR, k_Lst1, g_addL, k_AddL, g_mulL, k_MulL, g_lenR, k_LenL, k_LenF, k_LenD, g_listR, k_SeqLL, k_SeqLF, g_tupR, k_SeqTL, k_SeqTF, g_app, k_App, g_ins, k_Ins, g_clr, k_Clr, g_pop, k_PopL, k_PopD, k_Pop1, k_Pop2, k_PopD1, g_get, k_GetI, k_GetS, h_Seq, h_End, h_Drop, h_Set, h_SA, h_SA1, h_SA2, h_SI, h_SI1, h_SI2, h_SI3, h_SI3D, h_SI3S, h_SIl, h_Env, h_ST, h_Par, h_Ite, i_Ite, i_IteF, h_Turn, h_zE, varP_some, put_get, put_ne, put_next, new_get, new_ne, new_at, new_next, b_add, b_sub, b_mul, b_div, b_mod, b_addS, b_addT, c_lt, c_le, c_gt, c_ge, c_is, c_isn, eq_int, eq_str, eq_bl, eq_si, eq_is, eq_nn, eq_ni, eq_in, eq_ref, nodL_l, nodL_f, eqN_s, eqLs_ints, eqLs_ints0, eqLs_nn, eqLs_c0, i_str, s_tup, s_str, at_nat, ix_nat, at_last', implies_true, not_true_eq_false, not_false_eq_true, Int.toNat_zero, Int.toNat_one, Int.reduceToNat, List.length_cons, List.length_nil, List.length_map, List.length_append, List.length_set, List.eraseIdx_cons_zero, f_lenT, f_lenS, f_listT, f_intI, f_intD, f_minI, f_maxI, f_str, kd_ref, kd_str', kdP_lst, kdP_dct, fitK, isi_non, isi_int, isi_bl, isi_str, isi_tup, isi_ref, isiN_l, isiN_f, isiN_d, tyI, tyB, tySt, tyT, tyL, isN, h_Pur, pT_t, pT_f, isQ_i, wipe_nil, wipe_cons, new_put, put_put, Int.toNat_natCast, val_same, cut2_1, fld, putf, if_true, if_false, eq_self, take_one, take_tup, setAll_nil, setAll_cons, List.getElem?_cons_zero, List.getElem?_cons_succ, List.set_cons_zero, List.set_cons_succ, List.map_cons, List.map_nil, List.cons_append, List.nil_append, decide_eq_true_eq, Bool.false_eq_true, true_and, and_true, Bool.not_true, Bool.not_false, Bool.not_eq_true', decide_eq_false_iff_not, reduceCtorEq])
theorem c_ltT {Q : PQ} {Z : PZ} {S : Sto} {xs ys : List W} : (cmpW .lt (.tup xs) (.tup ys) S).wp Q Z = kBl Q S (ltD S (.tup xs) (.tup ys)) := by
  show (boolR (ltD S (.tup xs) (.tup ys)) S).wp Q Z = _
  cases ltD S (.tup xs) (.tup ys) <;> rfl
structure HB (S : Sto) (b l L H : Nat) (rem hs : List Int) : Prop where
  g : LB S b l L rem
  hH : S.get H = some (.lst (hs.map .int))
  lH : H < S.next
  ne : H ≠ b ∧ H ≠ l ∧ H ≠ L
theorem HB.lb {S : Sto} {b l L H : Nat} {rem hs : List Int} (h : HB S b l L H rem hs) : LB S b l H hs := ⟨h.g.box, h.hH, h.lH, h.ne.1, h.ne.2.1⟩
theorem HB.frb {S S' : Sto} {b l L H : Nat} {rem hs : List Int} (h : HB S b l L H rem hs) (B : ∃ x ns, Box S' b l x ns) (f : Fr [b, l] S S') : HB S' b l L H rem hs :=
  ⟨⟨B, (f.eq L h.g.lL (by have := h.g.ne; simp; omega)).trans h.g.hL, Nat.lt_of_lt_of_le h.g.lL f.le, h.g.ne⟩, (f.eq H h.lH (by have := h.ne; simp; omega)).trans h.hH, Nat.lt_of_lt_of_le h.lH f.le, h.ne⟩
theorem HB.fr0 {S S' : Sto} {b l L H : Nat} {rem hs : List Int} (h : HB S b l L H rem hs) (f : Fr [] S S') : HB S' b l L H rem hs :=
  ⟨h.g.fr f, (f.eq H h.lH (by simp)).trans h.hH, Nat.lt_of_lt_of_le h.lH f.le, h.ne⟩
theorem take_hb {T : Tab} (hT : T (.fn .n_law_take) = some b_law_take) {k b l L H : Nat} {rem hs : List Int} {m : Int} {S : Sto} {Z : PZ} (h : HB S b l L H rem hs) (hm : 0 < m ∧ m < 2 ^ 100) :
    (run T (k + 1) (.fn .n_law_take) [.ref b, .int m] S).wp (fun v S1 => ∃ r : Nat, v = .int r ∧ (r : Int) < m ∧ HB S1 b l L H rem hs ∧ Fr [b, l] S S1) Z :=
  R.wp_mono (take_lb hT h.g hm) (fun v S1 ⟨r, ev, hr, g1, f1⟩ => ⟨r, ev, hr, h.frb g1.box f1, f1⟩) (fun _ _ z => z)
structure Good (hs rem : List Int) : Prop where
  d : Drw hs rem
  pw : hs.Pairwise (· < ·)
  l0 : 0 < hs.length
  l6 : hs.length ≤ 6
theorem Good.rng {hs rem : List Int} (g : Good hs rem) : ∀ o ∈ hs, 0 ≤ o ∧ o ≤ 19 := fun o m => g.d.2 o (List.mem_append_left _ m)
theorem Good.more {hs rem : List Int} (g : Good hs rem) {j : Nat} (hj : j < rem.length) (h6 : hs.length < 6) : Good (sortInts (hs ++ [rem[j]])) (rem.eraseIdx j) := by
  have d := g.d.step hj
  have p : (sortInts (hs ++ [rem[j]]) ++ rem.eraseIdx j).Perm (hs ++ [rem[j]] ++ rem.eraseIdx j) := (sortInts_perm _).append_right _
  have l := (sortInts_perm (hs ++ [rem[j]])).length_eq
  rw [List.length_append, List.length_singleton] at l
  exact ⟨⟨p.nodup_iff.mpr d.1, fun y m => d.2 y (p.mem_iff.mp m)⟩, sort_lt (List.nodup_append.mp d.1).1, by omega, by omega⟩
theorem Good.less {hs rem : List Int} (g : Good hs rem) {j : Nat} (hj : j < hs.length) (h1 : 1 < hs.length) : Good (hs.eraseIdx j) rem := by
  have sl : (hs.eraseIdx j ++ rem).Sublist (hs ++ rem) := (List.eraseIdx_sublist hs j).append_right rem
  have l := List.length_eraseIdx_of_lt hj
  have l6 := g.l6
  exact ⟨⟨g.d.1.sublist sl, fun y m => g.d.2 y (sl.subset m)⟩, g.pw.sublist (List.eraseIdx_sublist hs j), by omega, by omega⟩
theorem rem_le : ∀ {rem : List Int}, rem.Nodup → (∀ y ∈ rem, 0 ≤ y ∧ y ≤ 19) → rem.length ≤ 20 := by
  intro rem nd h
  have s1 := sum_ct_le (hs := (List.range 20).map fun (k : Nat) => (k : Int)) (r := rem) (by decide)
  have key : ∀ y ∈ rem, ct rem y = 1 := fun y m => by
    unfold ct
    rw [nd.count, if_pos m]; rfl
  have s2 := sum_ct_le (hs := rem) (r := (List.range 20).map fun (k : Nat) => (k : Int)) nd
  have e : rem.map (ct ((List.range 20).map fun (k : Nat) => (k : Int))) = rem.map fun _ => 1 := List.map_congr_left fun y m => by
    unfold ct
    have nd2 : ((List.range 20).map fun (k : Nat) => (k : Int)).Nodup := by decide
    have m2 : y ∈ (List.range 20).map fun (k : Nat) => (k : Int) := List.mem_map.mpr ⟨y.toNat, List.mem_range.mpr (by have := h y m; omega), by have := h y m; omega⟩
    rw [nd2.count, if_pos m2]; rfl
  rw [e] at s2
  have s3 : ∀ l : List Int, (l.map fun _ => (1 : Int)).sum = l.length := fun l => by
    induction l with
    | nil => rfl
    | cons a l ih => rw [List.map_cons, List.sum_cons, ih, List.length_cons]; omega
  rw [s3, List.length_map, List.length_range] at s2
  omega
structure Tabs3 (T : Tab) : Prop where
  la : T (.fn .n_law) = some b_law'
  be : T (.fn .n_law_begun) = some b_law_begun
  ta : T (.fn .n_law_take) = some b_law_take
  mv : T (.fn .n_law_moved) = some b_law_moved
  ev : T (.fn .n_law_even) = some b_law_even
  sd : T (.fn .n_shared) = some b_shared
  no : T (.fn .n_need_owners) = some b_need_owners
  nh : T (.fn .n_need_houses) = some b_need_houses
  sb : T (.fn .n_shared_by) = some b_shared_by
  mo : T (.fn .n_most_kept) = some b_most_kept
  nu : T (.fn .n_is_number) = some b_is_number
theorem shared_e3 {T : Tab} (t : Tabs3 T) {k n : Nat} {hs os : List Int} {sh : Int} {ov : Nat} {S : Sto} {Z : PZ} {v : Int} (E : Even hs os sh ov) (hn : S.get n = some (.lst (hs.map .int))) (ln : n < S.next) (ho : ∀ o ∈ hs, 0 ≤ o ∧ o ≤ 19) (oo : ∀ o ∈ os, 0 ≤ o ∧ o ≤ 19)
    (hb : mkept sh os (fun _ => 0) hs ov = some v) (hg : (gA hs sh ov os (fun _ => 0) v).length = 12) : (run T (k + 3) (.fn .n_shared) [.tup (os.map .int), .ref n] S).wp (tupQ (gA hs sh ov os (fun _ => 0) v) S) Z := by
  have h := shared_ok t.sd t.no t.nh t.sb t.mo t.nu (k := k) (Z := Z) hn ln E.l0 E.l6 ho E.pw E.ol oo (by rw [E.es, E.eo]; exact hb) (by rw [E.es, E.eo]; exact hg)
  rw [E.es, E.eo] at h
  exact h
def k3I (b l L : Nat) : Nat → PN := fun _ σ S => ∃ (H : Nat) (hs rem os : List Int) (o5 o6 o7 o8 o9 o10 o11 o12 : Option W), σ = [some (.ref 0), some (.ref b), some (.ref L), some (.ref H), some (.tup (os.map .int)), o5, o6, o7, o8, o9, o10, o11, o12] ∧ HB S b l L H rem hs ∧ Good hs rem ∧ os.length = 12 ∧ ∀ o ∈ os, 0 ≤ o ∧ o ≤ 19
theorem k3I_i {b l L i H : Nat} {hs rem os : List Int} {S : Sto} {o5 o6 o7 o8 o9 o10 o11 o12 : Option W} (h : HB S b l L H rem hs) (g : Good hs rem) (ol : os.length = 12) (oo : ∀ o ∈ os, 0 ≤ o ∧ o ≤ 19) :
    k3I b l L i [some (.ref 0), some (.ref b), some (.ref L), some (.ref H), some (.tup (os.map .int)), o5, o6, o7, o8, o9, o10, o11, o12] S := ⟨H, hs, rem, os, o5, o6, o7, o8, o9, o10, o11, o12, rfl, h, g, ol, oo⟩
def k3J (os f : List Int) (hs rem : List Int) (b l L H : Nat) : Nat → PN := fun _ σ S => ∃ (o5 o7 o9 o10 o11 o12 : Option W), σ = [some (.ref 0), some (.ref b), some (.ref L), some (.ref H), some (.tup (os.map .int)), o5, some (.tup (f.map .int)), o7, some (.int (12 - kp os f)), o9, o10, o11, o12] ∧ HB S b l L H rem hs
theorem k3J_i {os f hs rem : List Int} {b l L H i : Nat} {S : Sto} {o5 o7 o9 o10 o11 o12 : Option W} (h : HB S b l L H rem hs) :
    k3J os f hs rem b l L H i [some (.ref 0), some (.ref b), some (.ref L), some (.ref H), some (.tup (os.map .int)), o5, some (.tup (f.map .int)), o7, some (.int (12 - kp os f)), o9, o10, o11, o12] S := ⟨o5, o7, o9, o10, o11, o12, rfl, h⟩
theorem k03_law {T : Tab} (t : Tabs3 T) (k : Nat) (ns : List Int) : ∃ S, run T (k + 20) (.fn .n_law) [.ref 0] (S0 ns) = .ok (.bl true) S := by
  have hlim : lim = 16000000 := rfl
  have go : (run T (k + 20) (.fn .n_law) [.ref 0] (S0 ns)).wp (fun v _ => v = .bl true) noZ := by
    refine run_q t.la rfl ?_
    show (exec (run T (k + 19)) b_law'.body [some (.ref 0), none, none, none, none, none, none, none, none, none, none, none, none] (S0 ns)).wp _ _ _
    unfold b_law'
    dsimp only
    have hs : (S0 ns).get 0 = some (.frz (ns.map .int)) := rfl
    have ls : 0 < (S0 ns).next := Nat.one_pos
    generalize S0 ns = S at hs ls
    x_go
    refine R.wp_mono (begun_ok t.be hs ls) (fun v S1 ⟨b, l, x, ns', ev, _, _, B, f1⟩ => ?_) (fun _ _ z => z)
    subst ev
    clear hs
    have lb : ((List.range 20).map fun (k : Nat) => (k : Int)).length = 20 := by decide
    have dr := drw0
    x_go
    rw [rng20]
    generalize ((List.range 20).map fun (k : Nat) => (k : Int)) = base at lb dr
    have g0 : LB (S1.new (.lst (base.map .int))) b l S1.next base := ⟨⟨x, ns', B.nw⟩, new_get, Nat.lt_succ_self _, by have := B.lb; have := B.ll; omega⟩
    generalize S1.new (.lst (base.map .int)) = S2 at g0
    generalize S1.next = L at g0
    x_go
    refine R.wp_mono (take_lb t.ta g0 (by omega)) (fun v S3 ⟨r, ev, hr, g3, f3⟩ => ?_) (fun _ _ z => z)
    subst ev
    have hr' : r < base.length := by omega
    have hw : (base.map W.int)[r]? = some (.int base[r]) := by rw [List.getElem?_map, List.getElem?_eq_getElem hr']; rfl
    have st := dr.step hr'
    rw [List.nil_append] at st
    have le := List.length_eraseIdx_of_lt hr'
    have hL3 := g3.hL
    generalize base[r] = y at hw st
    x_go
    refine ⟨by omega, ?_⟩
    have h4 : HB ((S3.put L (.lst ((base.eraseIdx r).map .int))).new (.lst [.int y])) b l L S3.next (base.eraseIdx r) [y] :=
      ⟨g3.putL.fr Fr.refl.nw, new_get, Nat.lt_succ_self _, by obtain ⟨⟨x, ns, B⟩, _, lL, _⟩ := g3; have := B.lb; have := B.ll; omega⟩
    have gd4 : Good [y] (base.eraseIdx r) := ⟨st, List.pairwise_singleton _ _, by simp, by simp⟩
    have lr4 : (base.eraseIdx r).length = 19 := by omega
    generalize base.eraseIdx r = rem at h4 gd4 lr4
    generalize (S3.put L (.lst (rem.map .int))).new (.lst [.int y]) = S4 at h4
    generalize S3.next = H at h4
    generalize [y] = hs at h4 gd4
    clear g0 hL3
    refine y_lc ?_
    x_go
    refine ⟨by omega, ?_⟩
    have rr : ∀ z ∈ rem, 0 ≤ z ∧ z ≤ 19 := fun z m => gd4.d.2 z (List.mem_append_right _ m)
    have bl4 : b < S4.next ∧ l < S4.next := by obtain ⟨⟨⟨x, ns, B⟩, _, _, _⟩, _, _, _⟩ := h4; exact ⟨B.lb, B.ll⟩
    refine lc_rng_inv (n := 12) (fun j acc S6 => ∃ ys, acc = ys.map .int ∧ HB S6 b l L H rem hs ∧ (∀ y ∈ ys, 0 ≤ y ∧ y ≤ 19) ∧ S4.next < S6.next) (by omega) ⟨[], rfl, h4.fr0 Fr.refl.nw, by simp, Nat.lt_succ_self _⟩ (fun j acc S6 hj ha hD ⟨ys, ea, g, yr, l6⟩ => ?_) (fun acc S6 ha hD ⟨ys, ea, g, yr, l6⟩ => ?_)
    · x_go
      refine R.wp_mono (take_hb t.ta g (by omega)) (fun v S7 ⟨r2, ev, hr2, g7, f7⟩ => ?_) (fun _ _ z => z)
      subst ev
      have h2 : r2 < rem.length := by omega
      have hw2 : (rem.map W.int)[r2]? = some (.int rem[r2]) := by rw [List.getElem?_map, List.getElem?_eq_getElem h2]; rfl
      have hm := rr rem[r2] (List.getElem_mem h2)
      have hD7 := (f7.eq S4.next l6 (by simp; omega)).trans hD
      have hL7 := g7.g.hL
      generalize rem[r2] = y2 at hw2 hm
      clear hD
      x_go
      subst ea
      have g8 : HB (S7.put S4.next (.lst (ys.map .int ++ [.int y2]))) b l L H rem hs := by
        have n1 := h4.lH
        have n2 := h4.g.lL
        exact ⟨g7.g.put (by omega), (put_ne (by omega)).trans g7.hH, g7.lH, g7.ne⟩
      refine ⟨ys ++ [y2], by simp, g8, fun z m => ?_, by have := f7.le; first | omega | (simp only [put_next]; omega)⟩
      rcases List.mem_append.mp m with m | m
      · exact yr z m
      · rw [List.mem_singleton.mp m]; exact hm
    · subst ea
      have l12 : ys.length = 12 := by rw [List.length_map] at ha; exact ha
      x_go
      refine y_forT ?_
      x_go
      refine R.wp_mono (take_hb t.ta g (by omega)) (fun v S7 ⟨r3, ev, hr3, g7, f7⟩ => ?_) (fun _ _ z => z)
      subst ev
      clear hD
      x_go
      refine ⟨by omega, ?_⟩
      refine forT_rng0 (k3I b l L) (k3I_i g7 gd4 l12 yr) (fun i σ S8 hi ⟨H, hs, rem, os, o5, o6, o7, o8, o9, o10, o11, o12, e, hb, gd, ol, oo⟩ => ?_) (fun σ S8 ⟨H, hs, rem, os, o5, o6, o7, o8, o9, o10, o11, o12, e, hb, gd, ol, oo⟩ => ?_)
      · subst e
        clear h4 gd4 rr bl4 g7 g yr f7
        simp only [take_one, h_Turn, List.set_cons_zero, List.set_cons_succ]
        rw [y_cons]
        refine RS.wp_mono (N := k3I b l L i) ?_ (fun σ S9 ⟨H, hs, rem, os, o5, o6, o7, o8, o9, o10, o11, o12, e, hb, gd, ol, oo⟩ => ?_) (fun _ _ z => z) (fun _ _ _ z => z)
        · have hH := hb.hH
          have hLL := hb.g.hL
          have d6 := gd.l6
          have d0 := gd.l0
          clear hLL
          x_go
          refine sel_i (fun h6 => ?_) (fun h6 => ?_)
          · x_go
            refine R.wp_mono (take_hb t.ta hb (by omega)) (fun v Sa ⟨ra, ev, hra, ha1, fa⟩ => ?_) (fun _ _ z => z)
            subst ev
            clear hH
            have hH := ha1.hH
            have hLL := ha1.g.hL
            x_go
            refine sel_i (fun h0 => ?_) (fun h0 => ?_)
            · x_go
              have lLa := ha1.g.lL
              x_go
              by_cases he : rem = []
              · have h2 := ha1.fr0 (Fr.refl.nw (d := .lst []))
                generalize Sa.new (.lst []) = Sb at h2
                clear hH hLL
                have hH := h2.hH
                x_go
                refine sel_i (fun h1 => ?_) (fun h1 => ?_)
                · x_go
                  refine R.wp_mono (take_hb t.ta h2 (by omega)) (fun v Sq ⟨rq, ev, hrq, hq, fq⟩ => ?_) (fun _ _ z => z)
                  subst ev
                  have hr' : rq < hs.length := by omega
                  have hwr : (hs.map W.int)[rq]? = some (.int hs[rq]) := by rw [List.getElem?_map, List.getElem?_eq_getElem hr']; rfl
                  have hHq := hq.hH
                  generalize hs[rq] = z at hwr
                  clear hH
                  x_go
                  exact ⟨by omega, k3I_i ⟨hq.g.put hq.ne, put_get, hq.lH, hq.ne⟩ (gd.less hr' (by omega)) ol oo⟩
                · x_go
                  exact k3I_i h2 gd ol oo
              · have h2 := ha1.fr0 (Fr.refl.nw (d := .lst []))
                generalize Sa.new (.lst []) = Sb at h2
                clear hH hLL
                have hH := h2.hH
                have hLL := h2.g.hL
                have lr : 0 < rem.length := List.length_pos_iff.mpr he
                have l20 : rem.length ≤ 20 := by
                  have nd := (List.nodup_append.mp gd.d.1).2.1
                  exact rem_le nd fun y m => gd.d.2 y (List.mem_append_right _ m)
                x_go
                refine R.wp_mono (take_hb t.ta h2 (by omega)) (fun v Sc ⟨rc, ev, hrc, hc, fc⟩ => ?_) (fun _ _ z => z)
                subst ev
                have hr' : rc < rem.length := by omega
                have hwr : (rem.map W.int)[rc]? = some (.int rem[rc]) := by rw [List.getElem?_map, List.getElem?_eq_getElem hr']; rfl
                have gm := gd.more hr' (by omega)
                clear hH hLL
                have hH := hc.hH
                have hLc := hc.g.hL
                have neH := hc.ne
                have lHc := hc.lH
                have lLc := hc.g.lL
                generalize rem[rc] = y3 at hwr gm
                generalize hrem' : rem.eraseIdx rc = rem' at gm
                have hme : (rem.map W.int).eraseIdx rc = rem'.map .int := by rw [map_erase, hrem']
                have happ : (hs.map W.int ++ [W.int y3]) = (hs ++ [y3]).map .int := by simp
                x_go
                refine ⟨by omega, by omega, ?_⟩
                have h9 := (hc.g.putL (rem' := rem')).fr (Fr.refl.nw (d := .lst [.int y3]))
                have h10 := h9.fr (Fr.refl.nw (d := .lst ((hs ++ [y3]).map .int)))
                have h11 := h10.fr (Fr.refl.nw (d := .lst ((sortInts (hs ++ [y3])).map .int)))
                refine k3I_i ⟨h11, new_get, Nat.lt_succ_self _, ?_⟩ gm ol oo
                obtain ⟨⟨x, ns, B⟩, _, lL, _⟩ := h10
                have := B.lb
                have := B.ll
                simp only [new_next, put_next] at *
                omega
            · x_go
              refine sel_i (fun h1 => ?_) (fun h1 => ?_)
              · x_go
                refine R.wp_mono (take_hb t.ta ha1 (by omega)) (fun v Sq ⟨rq, ev, hrq, hq, fq⟩ => ?_) (fun _ _ z => z)
                subst ev
                have hr' : rq < hs.length := by omega
                have hwr : (hs.map W.int)[rq]? = some (.int hs[rq]) := by rw [List.getElem?_map, List.getElem?_eq_getElem hr']; rfl
                have hHq := hq.hH
                generalize hs[rq] = z at hwr
                clear hH
                x_go
                exact ⟨by omega, k3I_i ⟨hq.g.put hq.ne, put_get, hq.lH, hq.ne⟩ (gd.less hr' (by omega)) ol oo⟩
              · x_go
                exact k3I_i ha1 gd ol oo
          · x_go
            refine sel_i (fun h1 => ?_) (fun h1 => ?_)
            · x_go
              refine R.wp_mono (take_hb t.ta hb (by omega)) (fun v Sq ⟨rq, ev, hrq, hq, fq⟩ => ?_) (fun _ _ z => z)
              subst ev
              have hr' : rq < hs.length := by omega
              have hwr : (hs.map W.int)[rq]? = some (.int hs[rq]) := by rw [List.getElem?_map, List.getElem?_eq_getElem hr']; rfl
              have hHq := hq.hH
              generalize hs[rq] = z at hwr
              clear hH
              x_go
              exact ⟨by omega, k3I_i ⟨hq.g.put hq.ne, put_get, hq.lH, hq.ne⟩ (gd.less hr' (by omega)) ol oo⟩
            · x_go
              exact k3I_i hb gd ol oo
        · subst e
          have hH := hb.hH
          have lH := hb.lH
          have l6 := gd.l6
          have E := Even.mk' (os := os) gd.pw gd.l0 gd.l6 ol
          generalize (12 / (hs.length : Int)) = sh at E
          generalize (12 % (hs.length : Int)).toNat = ov at E
          obtain ⟨v, v1, v2, v3, v4⟩ := best_all E
          have vm : ∀ o ∈ gA hs sh ov os (fun _ => 0) v, 0 ≤ o ∧ o ≤ 19 := fun o m => gd.rng o (gA_mem m)
          have ca := shared_e3 t (k := k + 16) (Z := noZ) E hH lH gd.rng oo v1 v2.1
          generalize gA hs sh ov os (fun _ => 0) v = f at *
          obtain ⟨v', w1, w2⟩ := best_again E v2
          rw [← v3] at v4
          clear v3
          x_go
          refine R.wp_mono ca (fun w Sa ⟨ev, fa⟩ => ?_) (fun _ _ z => z)
          subst ev
          have ha := hb.fr0 fa
          clear hH
          have hHa := ha.hH
          have lHa := ha.lH
          have l12 := v2.1
          x_go
          refine y_lc ?_
          x_go
          refine lc_all_i (l := hs) .int (fun h => .int (ct f h)) (by x_go) (by x_go) (by omega) (fun h acc _ => by x_go) ?_
          have hsum := row_sum E v2
          have hct := row_ct v2
          have hmax : ∃ a, a ≤ sh + 1 ∧ ∀ (Q : PQ) (S : Sto), kMax Q S (some (.lst (hs.map fun h => W.int (ct f h)))) = Q (.int a) S := by
            have e : (hs.map fun h => W.int (ct f h)) = (hs.map (ct f)).map .int := by rw [List.map_map]; rfl
            have : ∃ a, most (hs.map (ct f)) = some a := by
              cases hs with
              | nil => exact absurd gd.l0 (by simp)
              | cons h t => exact ⟨_, rfl⟩
            obtain ⟨a, ea⟩ := this
            obtain ⟨h, m, eh⟩ := List.mem_map.mp (most_ok ea).1
            exact ⟨a, by have := hct h m; omega, fun Q S => by rw [e, k_MaxI, ea]; rfl⟩
          have hmin : ∃ a, sh ≤ a ∧ ∀ (Q : PQ) (S : Sto), kMin Q S (some (.lst (hs.map fun h => W.int (ct f h)))) = Q (.int a) S := by
            have e : (hs.map fun h => W.int (ct f h)) = (hs.map (ct f)).map .int := by rw [List.map_map]; rfl
            have : ∃ a, least (hs.map (ct f)) = some a := by
              cases hs with
              | nil => exact absurd gd.l0 (by simp)
              | cons h t => exact ⟨_, rfl⟩
            obtain ⟨a, ea⟩ := this
            obtain ⟨h, m, eh⟩ := List.mem_map.mp (least_ok ea).1
            exact ⟨a, by have := hct h m; omega, fun Q S => by rw [e, k_MinI, ea]; rfl⟩
          obtain ⟨mx, mx1, hmax⟩ := hmax
          obtain ⟨mn, mn1, hmin⟩ := hmin
          have hsum' : (hs.map fun h => ct f h).sum = 12 := hsum
          clear hsum hct
          have hb2 := ha.fr0 (Fr.refl.nw (d := .lst (hs.map fun h => .int (ct f h))))
          have lHb := hb2.lH
          x_go
          generalize Sa.new (.lst (hs.map fun h => .int (ct f h))) = Sb at hb2 lHb
          clear hHa lHa
          refine sel_i (fun h => absurd h (by omega)) (fun _ => ?_)
          have hHb := hb2.hH
          x_go
          have cb := shared_e3 t (k := k + 16) (Z := noZ) (E.re v2.1) hHb lHb gd.rng vm w1 (by rw [w2]; exact v2.1)
          rw [w2] at cb
          refine R.wp_mono cb (fun w Sc ⟨ev, fc⟩ => ?_) (fun _ _ z => z)
          subst ev
          have hcc := hb2.fr0 fc
          clear hHb hmax hmin
          x_go
          refine R.wp_mono (moved_ok (k := k + 18) t.mv ol l12) (fun w Sd ⟨ev, fd⟩ => ?_) (fun _ _ z => z)
          subst ev
          have hdd := hcc.fr0 fd
          x_go
          refine y_forT ?_
          x_go
          refine ⟨by omega, ?_⟩
          refine forT_rng0 (k3J os f hs rem b l L H) (k3J_i hdd) (fun j σ Se hj ⟨o5, o7, o9, o10, o11, o12, e, he⟩ => ?_) (fun σ Se ⟨o5, o7, o9, o10, o11, o12, e, he⟩ => ?_)
          · subst e
            x_go
            refine R.wp_mono (even_ok (k := k + 17) t.ev t.ta E he.lb) (fun w Sf ⟨g, ev, rg, Bf, ff⟩ => ?_) (fun _ _ z => z)
            subst ev
            have hf := he.frb Bf ff
            x_go
            refine R.wp_mono (moved_ok (k := k + 18) t.mv ol rg.1) (fun w Sg ⟨ev, fg⟩ => ?_) (fun _ _ z => z)
            subst ev
            have hgg := hf.fr0 fg
            obtain ⟨p1, p2⟩ := v4 g rg
            have hlt : (decide (12 - kp os g < 12 - kp os f) || (decide (12 - kp os g = 12 - kp os f) && ltL g f)) = false := by
              rw [Bool.or_eq_false_iff]
              refine ⟨decide_eq_false (by omega), ?_⟩
              by_cases q : 12 - kp os g = 12 - kp os f
              · rcases p2 (by omega) with z | z
                · rw [z, ltL_irr]; simp
                · rw [ltL_asym z]; simp
              · rw [decide_eq_false q]; rfl
            have hl2 := lt_pair (S := Sg) (a := 12 - kp os g) (b := 12 - kp os f) (xs := g) (ys := f)
            rw [hlt] at hl2
            have hl3 := fun (Q : PQ) (Z : PZ) => c_ltT (Q := Q) (Z := Z) (S := Sg) (xs := [.int (12 - kp os g), .tup (g.map .int)]) (ys := [.int (12 - kp os f), .tup (f.map .int)])
            rw [hl2] at hl3
            x_go
            exact k3J_i hgg
          · subst e
            x_go
            exact k3I_i he gd l12 vm
      · subst e
        x_go
  cases h : run T (k + 20) (.fn .n_law) [.ref 0] (S0 ns) with
  | ok v S => rw [h] at go; exact ⟨S, by rw [show v = .bl true from go]⟩
  | ex x S => rw [h] at go; exact False.elim go
  | no => rw [h] at go; exact False.elim go
end D
end

set_option maxHeartbeats 0
namespace Lk03
open PySem PySem.Spec PyProof.Rows L2 D
def top (i : Nat) : Stmt := PySem.Challenge.pw_drainhouse_k03_whole_even_and_few_moved.main.body.getD i (.Pass ⟨0, 0, 0, 0⟩)
def sub (i j : Nat) : Stmt := match top i with
  | .ClassDef _ _ _ b .. => b.getD j (.Pass ⟨0, 0, 0, 0⟩)
  | s => s
def src0 : List Src := [⟨.fn .n_is_number, ⟨("is_number", none), "is_number", "is_number", defArgs (top 8), defBody (top 8), defScope (top 8), [], []⟩, ["part", "low", "high"], b_is_number⟩,
  ⟨.fn .n_need_houses, ⟨("need_houses", none), "need_houses", "need_houses", defArgs (top 9), defBody (top 9), defScope (top 9), [], []⟩, ["houses"], b_need_houses⟩,
  ⟨.fn .n_need_owners, ⟨("need_owners", none), "need_owners", "need_owners", defArgs (top 10), defBody (top 10), defScope (top 10), [], []⟩, ["owners"], b_need_owners⟩,
  ⟨.fn .n_most_kept, ⟨("most_kept", none), "most_kept", "most_kept", defArgs (top 11), defBody (top 11), defScope (top 11), [], []⟩, ["rest", "houses", "used"], b_most_kept⟩,
  ⟨.fn .n_shared_by, ⟨("shared_by", none), "shared_by", "shared_by", defArgs (top 12), defBody (top 12), defScope (top 12), [], []⟩, ["owners", "houses"], b_shared_by⟩,
  ⟨.fn .n_shared, ⟨("shared", none), "shared", "shared", defArgs (top 13), defBody (top 13), defScope (top 13), [], []⟩, ["owners", "houses"], b_shared⟩,
  ⟨.fn .n_law_begun, ⟨("_law_begun", none), "_law_begun", "_law_begun", defArgs (top 15), defBody (top 15), defScope (top 15), [], []⟩, ["_law_script"], b_law_begun⟩,
  ⟨.fn .n_law_take, ⟨("_law_take", none), "_law_take", "_law_take", defArgs (top 16), defBody (top 16), defScope (top 16), [], []⟩, ["_law_box", "_law_many"], b_law_take⟩,
  ⟨.fn .n_law_moved, ⟨("_law_moved", none), "_law_moved", "_law_moved", defArgs (top 17), defBody (top 17), defScope (top 17), [], []⟩, ["_law_owners", "_law_others"], b_law_moved⟩,
  ⟨.fn .n_law_choices, ⟨("_law_choices", none), "_law_choices", "_law_choices", defArgs (top 18), defBody (top 18), defScope (top 18), [], []⟩, ["_law_houses", "_law_many"], b_law_choices⟩]
def src1 : List Src := [⟨.fn .n_law_stay, ⟨("_law_stay", none), "_law_stay", "_law_stay", defArgs (top 19), defBody (top 19), defScope (top 19), [], []⟩, ["_law_owners", "_law_houses"], b_law_stay⟩,
  ⟨.fn .n_law_shared, ⟨("_law_shared", none), "_law_shared", "_law_shared", defArgs (top 20), defBody (top 20), defScope (top 20), [], []⟩, ["_law_owners", "_law_houses"], b_law_shared⟩,
  ⟨.fn .n_law_first, ⟨("_law_first", none), "_law_first", "_law_first", defArgs (top 21), defBody (top 21), defScope (top 21), [], []⟩, ["_law_owners", "_law_houses", "_law_left"], b_law_first⟩,
  ⟨.fn .n_law_even, ⟨("_law_even", none), "_law_even", "_law_even", defArgs (top 22), defBody (top 22), defScope (top 22), [], []⟩, ["_law_box", "_law_houses", "_law_owners"], b_law_even⟩,
  ⟨.fn .n_law, ⟨("law", none), "law", "law", defArgs (top 23), defBody (top 23), defScope (top 23), [], []⟩, ["_law_script"], b_law'⟩]
def src : List Src := src0 ++ src1
def fx : Fx where
  T := tabOf src
  fns := src.map (·.at_)
  cl := []
  fields := []
  ic := [(.n_SLOTS, 12), (.n_MOST_HOUSES, 6), (.n_MOST_HOUSE, 19)]
  wc := []
  free := ["dict", "range", "tuple", "len", "min", "list", "isinstance", "int", "max", "sum", "bool", "sorted"]
  exc := [.n_DrainError, .n_BadHouse, .n_BadEdition]
abbrev R : PySem.W.OpenRow := PySem.W.OpenLaw.row PySem.Challenge.rw_drainhouse_k03_whole_even_and_few_moved
abbrev hk : PySem.W.Hook := hookN 6 (faOf fx) (src.map (·.dd))
def ob (s : PySem.W.SharedT) : He.AlD := obsN 6 (faOf fx) (src.map (·.dd)) (HandSHeadRun.getT s)
theorem ob_eq (s : PySem.W.SharedT) : ob s = hk.obs s.abs := obsN_eq (HandSHeadRun.getT_eq s)
def loose : List PySem.Str := (["__name__", "DrainError", "BadHouse", "BadEdition", "SLOTS", "MOST_HOUSE", "MOST_HOUSES", "is_number", "need_houses", "need_owners", "most_kept", "shared_by", "shared", "_law_begun", "_law_take", "_law_moved", "_law_choices", "_law_stay", "_law_shared", "_law_first", "_law_even"] : List PySem.Str)
theorem run_top (w : World) : HandSHeadRun.RunEq R (PySem.W.view R.prog [23]) hk ob 4000 loose w := by
  intro os
  kernel_rfl
theorem src_ok : (src.all (okD fx)) = true := by kernel_rfl
theorem src_par : (src.all fun e => !decide (e.at_ = .fn .n_law) || decide (e.ps = (["_law_script"] : List Str))) = true := by decide +kernel
def lawok (m : Nat) (h : ∀ ns : List Int, ns.length ≤ m → ∃ S, D.run fx.T 40 (.fn .n_law) [.ref 0] (S0 ns) = .ok (.bl true) S) : LawOk fx src m 40 "_law_script" := ⟨rfl, rfl, src_ok, src_par, h⟩
end Lk03

theorem Lk03.law_is : D.LawOk Lk03.fx Lk03.src 63 40 "_law_script" := Lk03.lawok 63 (fun ns _ => D.k03_law ⟨rfl, rfl, rfl, rfl, rfl, rfl, rfl, rfl, rfl, rfl, rfl⟩ 20 ns)
open PySem PySem.W PySem.Calls PyProof.Rows
theorem PySem.Challenge.cw_drainhouse_k03_whole_even_and_few_moved_holds : PySem.Challenge.rw_drainhouse_k03_whole_even_and_few_moved.Holds := by
  w_on; o_law
  refine HandSHeadRun.head_any (r := OpenLaw.row PySem.Challenge.rw_drainhouse_k03_whole_even_and_few_moved) (q := view (OpenLaw.row PySem.Challenge.rw_drainhouse_k03_whole_even_and_few_moved).prog [23]) (H := Lk03.hk) (ob := Lk03.ob) (M := 4000) (loose := Lk03.loose) (d := HandSHeadRun.topDef (OpenLaw.row PySem.Challenge.rw_drainhouse_k03_whole_even_and_few_moved).prog 23) (kwd := []) Lk03.ob_eq
    (by kernel_rfl) (fun s => by kernel_rfl) Lk03.run_top (by kernel_rfl) (by kernel_rfl) (by kernel_rfl) (by rfl) (by first | assumption | decide +kernel) (by decide +kernel) ⟨rfl, rfl, rfl, rfl, rfl, by decide +kernel⟩ ?hw ?hc
  case hw => w_witness2
  case hc =>
    refine L2.walk_ofE (l := PySem.Challenge.rw_drainhouse_k03_whole_even_and_few_moved) (n := 63) (k := D.lv 40) (x := "_law_script") (CX := L2.CX0) rfl (by decide) (by kernel_rfl) ⟨rfl, by decide, by decide⟩ ?F (fun _ _ _ _ z => z)
    intro w mg fa h Y G hmg0
    have hmg : mg ("law" : PySem.Str) = some (.ref fa) := by
      have e : (HandSHeadRun.topDef (OpenLaw.row PySem.Challenge.rw_drainhouse_k03_whole_even_and_few_moved).prog 23).name = ("law" : PySem.Str) := by kernel_rfl
      rw [← e]
      exact hmg0
    exact D.law_end Lk03.law_is Y G hmg

