import PyProof.Rows.All
import Wide.All
import OpenK.AllK
import Wide.FinOn
import KE.KStateDown
import HandS.Words
import HandS.Head0
import HandS.Head1
import HandS.Head2
import HandS.HeadEnd
import HandS.HeadHook1
import HandS.HeadHook2
import HandS.ForMost
import HandS.IsInst
import HandS.Deep
import HandS.Wide
import HandS.TupAny
import HandS.TupMul
import HandS.SortInts
import HandS.Style
import HandS.Flow
import HandS.Conv
import HandS.SetFor
import HandS.Strs
import HandS.WideMore
import KE.SortData
import KE.DataMinMax
import KE.DataCmp
import KE.GoesNew
import KE.KDictCopyH
import KE.KDictSum
import HandS.TupLen
import HandS.TupSets
import KE.KDictDisplayH
import KE.KDictZip
import PyProof.TupleOfGen
import HandS.ExcValue
import HandS.ReplaceLit
import HandS.CallLocal
import HandS.TryOnly
import PySem.Challenge.RW_doublepay_k66_known_pairs
set_option Elab.async false
set_option linter.all false
set_option maxRecDepth 100000
set_option maxHeartbeats 4000000
set_option exponentiation.threshold 10000
/-! one run of the top in the kernel: what is looked at -/
namespace DP
open PySem PySem.Spec PyProof.Rows L2
/-- what objects name -/
def refsA (g : Addr → Option Obj) (as : List Addr) : List Addr := as.flatMap fun a => match g a with
  | some o => He.refsO o
  | none => []
/-- no list -/
def nolO (g : Addr → Option Obj) (a : Addr) : Bool := match g a with
  | some o => !(o.cls == .type "list")
  | none => true
/-- the objects that are looked at: the names' own and what they name; of classes, down to their methods' code -/
def asM (xs cs : List Str) (g : Addr → Option Obj) : List Addr :=
  (fun K0 => (fun A C => (fun C1 => (fun C2 => ((mainGlobals :: A) ++ (refsA g A ++ (C1 ++ (C2 ++ refsA g C2)))).filter (nolO g)) (refsA g C1)) (refsA g C)) (xs.map (He.ga K0)) (cs.map (He.ga K0))) (He.frG g [mainGlobals])
def obsM (xs cs : List Str) (fa : List He.Fa) (fn : List He.DefD) (g : Addr → Option Obj) : He.AlD := He.obsD fa fn (He.frG g (asM xs cs g))
def noLs (K : PySem.W.Frag) : Bool := K.all fun p => !(p.2.cls == .type "list")
theorem noLs_fr {g : Addr → Option Obj} : ∀ {as : List Addr}, (∀ a ∈ as, nolO g a = true) → noLs (He.frG g as) = true
  | [], _ => rfl
  | a :: r, h => by
    have ih := noLs_fr (g := g) (as := r) fun b hb => h b (List.mem_cons_of_mem _ hb)
    have h0 := h a (List.mem_cons_self ..)
    unfold nolO at h0
    unfold He.frG
    rw [List.filterMap_cons]
    cases e : g a with
    | none => exact ih
    | some o =>
      rw [e] at h0
      show noLs ((a, o) :: He.frG g r) = true
      unfold noLs
      rw [List.all_cons, Bool.and_eq_true]
      exact ⟨h0, ih⟩
theorem noLs_as {xs cs : List Str} {g : Addr → Option Obj} : noLs (He.frG g (asM xs cs g)) = true := noLs_fr fun a h => (List.mem_filter.mp h).2
def hookM (xs cs : List Str) (fa : List He.Fa) (fn : List He.DefD) : PySem.W.Hook where
  α := He.AlD
  obs := fun s => obsM xs cs fa fn s.heap.get?
  val := fun _ => He.valD fn
  says := fun _ h => ∃ K : PySem.W.Frag, K.In h ∧ He.SaysD fa fn K ∧ noLs K = true
  of := fun _ _ e => ⟨_, He.frG_in, e, noLs_as⟩
  keeps := fun _ _ _ ⟨K, hK, c⟩ k => ⟨K, PySem.W.Frag.In.keeps hK k, c⟩
theorem obsM_eq {xs cs : List Str} {fa : List He.Fa} {fn : List He.DefD} {g : Addr → Option Obj} {s : Shared} (h : ∀ a, g a = s.heap.get? a) : obsM xs cs fa fn g = (hookM xs cs fa fn).obs s := by
  have e : g = s.heap.get? := funext h
  rw [e] <;> rfl
end DP

namespace DP
open PySem PySem.Spec PyProof.Rows L2
def topS (i : Nat) : Stmt := PySem.Challenge.pw_doublepay_k66_known_pairs.main.body.getD i (.Pass ⟨0, 0, 0, 0⟩)
def clsB : Stmt → List Stmt
  | .ClassDef _ _ _ body _ _ _ _ _ _ _ => body
  | _ => []
def mS (i j : Nat) : Stmt := (clsB (topS i)).getD j (.Pass ⟨0, 0, 0, 0⟩)
def dd_0 : He.DefD := ⟨(Str.ofString "is_in", none), Str.ofString "is_in", Str.ofString "is_in", defArgs (topS 16), defBody (topS 16), defScope (topS 16), [], []⟩
def dd_1 : He.DefD := ⟨(Str.ofString "gcd", none), Str.ofString "gcd", Str.ofString "gcd", defArgs (topS 17), defBody (topS 17), defScope (topS 17), [], []⟩
def dd_2 : He.DefD := ⟨(Str.ofString "reduced", none), Str.ofString "reduced", Str.ofString "reduced", defArgs (topS 18), defBody (topS 18), defScope (topS 18), [], []⟩
def dd_3 : He.DefD := ⟨(Str.ofString "is_factor", none), Str.ofString "is_factor", Str.ofString "is_factor", defArgs (topS 24), defBody (topS 24), defScope (topS 24), [], []⟩
def dd_4 : He.DefD := ⟨(Str.ofString "need_table", none), Str.ofString "need_table", Str.ofString "need_table", defArgs (topS 25), defBody (topS 25), defScope (topS 25), [], []⟩
def dd_5 : He.DefD := ⟨(Str.ofString "need_player", none), Str.ofString "need_player", Str.ofString "need_player", defArgs (topS 26), defBody (topS 26), defScope (topS 26), [], []⟩
def dd_6 : He.DefD := ⟨(Str.ofString "owed_in", none), Str.ofString "owed_in", Str.ofString "owed_in", defArgs (topS 27), defBody (topS 27), defScope (topS 27), [], []⟩
def dd_7 : He.DefD := ⟨(Str.ofString "payers_in", none), Str.ofString "payers_in", Str.ofString "payers_in", defArgs (topS 28), defBody (topS 28), defScope (topS 28), [], []⟩
def dd_8 : He.DefD := ⟨(Str.ofString "need_factor", none), Str.ofString "need_factor", Str.ofString "need_factor", defArgs (topS 31), defBody (topS 31), defScope (topS 31), [], []⟩
def dd_9 : He.DefD := ⟨(Str.ofString "need_players", none), Str.ofString "need_players", Str.ofString "need_players", defArgs (topS 32), defBody (topS 32), defScope (topS 32), [], []⟩
def dd_10 : He.DefD := ⟨(Str.ofString "need_word", none), Str.ofString "need_word", Str.ofString "need_word", defArgs (topS 33), defBody (topS 33), defScope (topS 33), [], []⟩
def dd_11 : He.DefD := ⟨(Str.ofString "need_rounds", none), Str.ofString "need_rounds", Str.ofString "need_rounds", defArgs (topS 34), defBody (topS 34), defScope (topS 34), [], []⟩
def dd_12 : He.DefD := ⟨(Str.ofString "power", none), Str.ofString "power", Str.ofString "power", defArgs (topS 35), defBody (topS 35), defScope (topS 35), [], []⟩
def dd_13 : He.DefD := ⟨(Str.ofString "numbers_in", none), Str.ofString "numbers_in", Str.ofString "numbers_in", defArgs (topS 36), defBody (topS 36), defScope (topS 36), [], []⟩
def dd_14 : He.DefD := ⟨(Str.ofString "after_in", none), Str.ofString "after_in", Str.ofString "after_in", defArgs (topS 37), defBody (topS 37), defScope (topS 37), [], []⟩
def dd_15 : He.DefD := ⟨(Str.ofString "payable_in", none), Str.ofString "payable_in", Str.ofString "payable_in", defArgs (topS 38), defBody (topS 38), defScope (topS 38), [], []⟩
def dd_16 : He.DefD := ⟨(Str.ofString "need_both", none), Str.ofString "need_both", Str.ofString "need_both", defArgs (topS 41), defBody (topS 41), defScope (topS 41), [], []⟩
def dd_17 : He.DefD := ⟨(Str.ofString "line_of", none), Str.ofString "line_of", Str.ofString "line_of", defArgs (topS 42), defBody (topS 42), defScope (topS 42), [], []⟩
def dd_18 : He.DefD := ⟨(Str.ofString "moved_along", none), Str.ofString "moved_along", Str.ofString "moved_along", defArgs (topS 43), defBody (topS 43), defScope (topS 43), [], []⟩
def dd_19 : He.DefD := ⟨(Str.ofString "word_in", none), Str.ofString "word_in", Str.ofString "word_in", defArgs (topS 44), defBody (topS 44), defScope (topS 44), [], []⟩
def dd_20 : He.DefD := ⟨(Str.ofString "moved_in", none), Str.ofString "moved_in", Str.ofString "moved_in", defArgs (topS 45), defBody (topS 45), defScope (topS 45), [], []⟩
def dd_21 : He.DefD := ⟨(Str.ofString "moved_word", none), Str.ofString "moved_word", Str.ofString "moved_word", defArgs (topS 46), defBody (topS 46), defScope (topS 46), [], []⟩
def dd_22 : He.DefD := ⟨(Str.ofString "gains", none), Str.ofString "gains", Str.ofString "gains", defArgs (topS 47), defBody (topS 47), defScope (topS 47), [], []⟩
def dd_23 : He.DefD := ⟨(Str.ofString "handed", none), Str.ofString "handed", Str.ofString "handed", defArgs (topS 48), defBody (topS 48), defScope (topS 48), [], []⟩
def dd_24 : He.DefD := ⟨(Str.ofString "taken", none), Str.ofString "taken", Str.ofString "taken", defArgs (topS 49), defBody (topS 49), defScope (topS 49), [], []⟩
def dd_25 : He.DefD := ⟨(Str.ofString "most_moved", none), Str.ofString "most_moved", Str.ofString "most_moved", defArgs (topS 50), defBody (topS 50), defScope (topS 50), [], []⟩
def dd_26 : He.DefD := ⟨(Str.ofString "payer_order", none), Str.ofString "payer_order", Str.ofString "payer_order", defArgs (topS 51), defBody (topS 51), defScope (topS 51), [], []⟩
def dd_27 : He.DefD := ⟨(Str.ofString "times_paid", none), Str.ofString "times_paid", Str.ofString "times_paid", defArgs (topS 52), defBody (topS 52), defScope (topS 52), [], []⟩
def dd_28 : He.DefD := ⟨(Str.ofString "shared", none), Str.ofString "shared", Str.ofString "shared", defArgs (topS 54), defBody (topS 54), defScope (topS 54), [], []⟩
def dd_29 : He.DefD := ⟨(Str.ofString "step", none), Str.ofString "step", Str.ofString "step", defArgs (topS 55), defBody (topS 55), defScope (topS 55), [], []⟩
def dd_30 : He.DefD := ⟨(Str.ofString "forever_in", none), Str.ofString "forever_in", Str.ofString "forever_in", defArgs (topS 56), defBody (topS 56), defScope (topS 56), [], []⟩
def dd_31 : He.DefD := ⟨(Str.ofString "line", none), Str.ofString "line", Str.ofString "line", defArgs (topS 57), defBody (topS 57), defScope (topS 57), [], []⟩
def dd_32 : He.DefD := ⟨(Str.ofString "split", none), Str.ofString "split", Str.ofString "split", defArgs (topS 58), defBody (topS 58), defScope (topS 58), [], []⟩
def dd_33 : He.DefD := ⟨(Str.ofString "order_of", none), Str.ofString "order_of", Str.ofString "order_of", defArgs (topS 59), defBody (topS 59), defScope (topS 59), [], []⟩
def dd_34 : He.DefD := ⟨(Str.ofString "period_in", none), Str.ofString "period_in", Str.ofString "period_in", defArgs (topS 60), defBody (topS 60), defScope (topS 60), [], []⟩
def dd_35 : He.DefD := ⟨(Str.ofString "payers_along", none), Str.ofString "payers_along", Str.ofString "payers_along", defArgs (topS 61), defBody (topS 61), defScope (topS 61), [], []⟩
def dd_36 : He.DefD := ⟨(Str.ofString "shares", none), Str.ofString "shares", Str.ofString "shares", defArgs (topS 65), defBody (topS 65), defScope (topS 65), [], []⟩
def dd_37 : He.DefD := ⟨(Str.ofString "need_few", none), Str.ofString "need_few", Str.ofString "need_few", defArgs (topS 66), defBody (topS 66), defScope (topS 66), [], []⟩
def dd_38 : He.DefD := ⟨(Str.ofString "need_words", none), Str.ofString "need_words", Str.ofString "need_words", defArgs (topS 71), defBody (topS 71), defScope (topS 71), [], []⟩
def dd_39 : He.DefD := ⟨(Str.ofString "words_in_allwords", none), Str.ofString "words_in", Str.ofString "words_in", defArgs (topS 72), defBody (topS 72), defScope (topS 72), [], []⟩
def dd_40 : He.DefD := ⟨(Str.ofString "all_tables", none), Str.ofString "all_tables", Str.ofString "all_tables", defArgs (topS 74), defBody (topS 74), defScope (topS 74), [], []⟩
def dd_41 : He.DefD := ⟨(Str.ofString "cycle_lengths", none), Str.ofString "cycle_lengths", Str.ofString "cycle_lengths", defArgs (topS 75), defBody (topS 75), defScope (topS 75), [], []⟩
def dd_42 : He.DefD := ⟨(Str.ofString "ending", none), Str.ofString "ending", Str.ofString "ending", defArgs (topS 76), defBody (topS 76), defScope (topS 76), [], []⟩
def dd_43 : He.DefD := ⟨(Str.ofString "longest_word", none), Str.ofString "longest_word", Str.ofString "longest_word", defArgs (topS 77), defBody (topS 77), defScope (topS 77), [], []⟩
def dd_44 : He.DefD := ⟨(Str.ofString "ending_counts", none), Str.ofString "ending_counts", Str.ofString "ending_counts", defArgs (topS 78), defBody (topS 78), defScope (topS 78), [], []⟩
def dd_45 : He.DefD := ⟨(Str.ofString "need_let", none), Str.ofString "need_let", Str.ofString "need_let", defArgs (topS 82), defBody (topS 82), defScope (topS 82), [], []⟩
def dd_46 : He.DefD := ⟨(Str.ofString "need_bank", none), Str.ofString "need_bank", Str.ofString "need_bank", defArgs (topS 83), defBody (topS 83), defScope (topS 83), [], []⟩
def dd_47 : He.DefD := ⟨(Str.ofString "need_limit", none), Str.ofString "need_limit", Str.ofString "need_limit", defArgs (topS 84), defBody (topS 84), defScope (topS 84), [], []⟩
def dd_48 : He.DefD := ⟨(Str.ofString "floors_of", none), Str.ofString "floors_of", Str.ofString "floors_of", defArgs (topS 85), defBody (topS 85), defScope (topS 85), [], []⟩
def dd_49 : He.DefD := ⟨(Str.ofString "is_let", none), Str.ofString "is_let", Str.ofString "is_let", defArgs (topS 86), defBody (topS 86), defScope (topS 86), [], []⟩
def dd_50 : He.DefD := ⟨(Str.ofString "counts_in", none), Str.ofString "counts_in", Str.ofString "counts_in", defArgs (topS 87), defBody (topS 87), defScope (topS 87), [], []⟩
def dd_51 : He.DefD := ⟨(Str.ofString "words_in_credit", none), Str.ofString "words_in", Str.ofString "words_in", defArgs (topS 88), defBody (topS 88), defScope (topS 88), [], []⟩
def dd_52 : He.DefD := ⟨(Str.ofString "bank_count", none), Str.ofString "bank_count", Str.ofString "bank_count", defArgs (topS 90), defBody (topS 90), defScope (topS 90), [], []⟩
def dd_53 : He.DefD := ⟨(Str.ofString "bank_words", none), Str.ofString "bank_words", Str.ofString "bank_words", defArgs (topS 91), defBody (topS 91), defScope (topS 91), [], []⟩
def dd_54 : He.DefD := ⟨(Str.ofString "bank_least", none), Str.ofString "bank_least", Str.ofString "bank_least", defArgs (topS 92), defBody (topS 92), defScope (topS 92), [], []⟩
def dd_55 : He.DefD := ⟨(Str.ofString "limit_count", none), Str.ofString "limit_count", Str.ofString "limit_count", defArgs (topS 93), defBody (topS 93), defScope (topS 93), [], []⟩
def dd_56 : He.DefD := ⟨(Str.ofString "limit_words", none), Str.ofString "limit_words", Str.ofString "limit_words", defArgs (topS 94), defBody (topS 94), defScope (topS 94), [], []⟩
def dd_57 : He.DefD := ⟨(Str.ofString "least_limit", none), Str.ofString "least_limit", Str.ofString "least_limit", defArgs (topS 95), defBody (topS 95), defScope (topS 95), [], []⟩
def dd_58 : He.DefD := ⟨(Str.ofString "need_pair", none), Str.ofString "need_pair", Str.ofString "need_pair", defArgs (topS 98), defBody (topS 98), defScope (topS 98), [], []⟩
def dd_59 : He.DefD := ⟨(Str.ofString "exponent", none), Str.ofString "exponent", Str.ofString "exponent", defArgs (topS 99), defBody (topS 99), defScope (topS 99), [], []⟩
def dd_60 : He.DefD := ⟨(Str.ofString "pair_rounds", none), Str.ofString "pair_rounds", Str.ofString "pair_rounds", defArgs (topS 100), defBody (topS 100), defScope (topS 100), [], []⟩
def dd_61 : He.DefD := ⟨(Str.ofString "pair_step", none), Str.ofString "pair_step", Str.ofString "pair_step", defArgs (topS 101), defBody (topS 101), defScope (topS 101), [], []⟩
def dd_62 : He.DefD := ⟨(Str.ofString "pair_word", none), Str.ofString "pair_word", Str.ofString "pair_word", defArgs (topS 102), defBody (topS 102), defScope (topS 102), [], []⟩
def dd_63 : He.DefD := ⟨(Str.ofString "left_of", none), Str.ofString "left_of", Str.ofString "left_of", defArgs (topS 103), defBody (topS 103), defScope (topS 103), [], []⟩
def dd_64 : He.DefD := ⟨(Str.ofString "pair_coins", none), Str.ofString "pair_coins", Str.ofString "pair_coins", defArgs (topS 104), defBody (topS 104), defScope (topS 104), [], []⟩
def dd_65 : He.DefD := ⟨(Str.ofString "read_table", none), Str.ofString "read_table", Str.ofString "read_table", defArgs (topS 108), defBody (topS 108), defScope (topS 108), [], []⟩
def dd_66 : He.DefD := ⟨(Str.ofString "text_of", none), Str.ofString "text_of", Str.ofString "text_of", defArgs (topS 110), defBody (topS 110), defScope (topS 110), [], []⟩
def dd_67 : He.DefD := ⟨(Str.ofString "picture_in", none), Str.ofString "picture_in", Str.ofString "picture_in", defArgs (topS 111), defBody (topS 111), defScope (topS 111), [], []⟩
def dd_68 : He.DefD := ⟨(Str.ofString "picture", none), Str.ofString "picture", Str.ofString "picture", defArgs (topS 112), defBody (topS 112), defScope (topS 112), [], []⟩
def dd_69 : He.DefD := ⟨(Str.ofString "read_picture", none), Str.ofString "read_picture", Str.ofString "read_picture", defArgs (topS 113), defBody (topS 113), defScope (topS 113), [], []⟩
def dd_70 : He.DefD := ⟨(Str.ofString "need_tail", none), Str.ofString "need_tail", Str.ofString "need_tail", defArgs (topS 116), defBody (topS 116), defScope (topS 116), [], []⟩
def dd_71 : He.DefD := ⟨(Str.ofString "shares_in", none), Str.ofString "shares_in", Str.ofString "shares_in", defArgs (topS 117), defBody (topS 117), defScope (topS 117), [], []⟩
def dd_72 : He.DefD := ⟨(Str.ofString "shares_of", none), Str.ofString "shares_of", Str.ofString "shares_of", defArgs (topS 118), defBody (topS 118), defScope (topS 118), [], []⟩
def dd_73 : He.DefD := ⟨(Str.ofString "least_of", none), Str.ofString "least_of", Str.ofString "least_of", defArgs (topS 119), defBody (topS 119), defScope (topS 119), [], []⟩
def dd_74 : He.DefD := ⟨(Str.ofString "tail_in", none), Str.ofString "tail_in", Str.ofString "tail_in", defArgs (topS 120), defBody (topS 120), defScope (topS 120), [], []⟩
def dd_75 : He.DefD := ⟨(Str.ofString "tail_of", none), Str.ofString "tail_of", Str.ofString "tail_of", defArgs (topS 121), defBody (topS 121), defScope (topS 121), [], []⟩
def dd_76 : He.DefD := ⟨(Str.ofString "need_like", none), Str.ofString "need_like", Str.ofString "need_like", defArgs (topS 122), defBody (topS 122), defScope (topS 122), [], []⟩
def dd_77 : He.DefD := ⟨(Str.ofString "same_rounds", none), Str.ofString "same_rounds", Str.ofString "same_rounds", defArgs (topS 123), defBody (topS 123), defScope (topS 123), [], []⟩
def dd_78 : He.DefD := ⟨(Str.ofString "write_word", none), Str.ofString "write_word", Str.ofString "write_word", defArgs (topS 127), defBody (topS 127), defScope (topS 127), [], []⟩
def dd_79 : He.DefD := ⟨(Str.ofString "is_payer", none), Str.ofString "is_payer", Str.ofString "is_payer", defArgs (topS 128), defBody (topS 128), defScope (topS 128), [], []⟩
def dd_80 : He.DefD := ⟨(Str.ofString "read_part", none), Str.ofString "read_part", Str.ofString "read_part", defArgs (topS 129), defBody (topS 129), defScope (topS 129), [], []⟩
def dd_81 : He.DefD := ⟨(Str.ofString "read_times", none), Str.ofString "read_times", Str.ofString "read_times", defArgs (topS 130), defBody (topS 130), defScope (topS 130), [], []⟩
def dd_82 : He.DefD := ⟨(Str.ofString "read_word", none), Str.ofString "read_word", Str.ofString "read_word", defArgs (topS 131), defBody (topS 131), defScope (topS 131), [], []⟩
def dd_83 : He.DefD := ⟨(Str.ofString "_law_alike", none), Str.ofString "_law_alike", Str.ofString "_law_alike", defArgs (topS 133), defBody (topS 133), defScope (topS 133), [], []⟩
def dd_84 : He.DefD := ⟨(Str.ofString "law", none), Str.ofString "law", Str.ofString "law", defArgs (topS 134), defBody (topS 134), defScope (topS 134), [], []⟩
def dd_85 : He.DefD := ⟨(Str.ofString "Reader", some (Str.ofString "__init__")), Str.ofString "__init__", Str.ofString "Reader.__init__", defArgs (mS 107 0), defBody (mS 107 0), defScope (mS 107 0), [], []⟩
def dd_86 : He.DefD := ⟨(Str.ofString "Reader", some (Str.ofString "sign")), Str.ofString "sign", Str.ofString "Reader.sign", defArgs (mS 107 1), defBody (mS 107 1), defScope (mS 107 1), [], []⟩
def dd_87 : He.DefD := ⟨(Str.ofString "Reader", some (Str.ofString "skip")), Str.ofString "skip", Str.ofString "Reader.skip", defArgs (mS 107 2), defBody (mS 107 2), defScope (mS 107 2), [], []⟩
def dd_88 : He.DefD := ⟨(Str.ofString "Reader", some (Str.ofString "take")), Str.ofString "take", Str.ofString "Reader.take", defArgs (mS 107 3), defBody (mS 107 3), defScope (mS 107 3), [], []⟩
def dd_89 : He.DefD := ⟨(Str.ofString "Reader", some (Str.ofString "factor")), Str.ofString "factor", Str.ofString "Reader.factor", defArgs (mS 107 4), defBody (mS 107 4), defScope (mS 107 4), [], []⟩
def dd_90 : He.DefD := ⟨(Str.ofString "Reader", some (Str.ofString "number")), Str.ofString "number", Str.ofString "Reader.number", defArgs (mS 107 5), defBody (mS 107 5), defScope (mS 107 5), [], []⟩
def dd_91 : He.DefD := ⟨(Str.ofString "Reader", some (Str.ofString "all_coins")), Str.ofString "all_coins", Str.ofString "Reader.all_coins", defArgs (mS 107 6), defBody (mS 107 6), defScope (mS 107 6), [], []⟩
def fnL_0 : List He.DefD := [dd_0, dd_1, dd_2, dd_3, dd_4, dd_5, dd_6, dd_7, dd_8, dd_9, dd_10, dd_11, dd_12, dd_13, dd_14, dd_15, dd_16, dd_17, dd_18, dd_19, dd_20, dd_21, dd_22, dd_23, dd_24, dd_25, dd_26, dd_27, dd_28, dd_29, dd_30, dd_31, dd_32, dd_33, dd_34, dd_35, dd_36, dd_37, dd_38, dd_39]
def fnL_1 : List He.DefD := [dd_40, dd_41, dd_42, dd_43, dd_44, dd_45, dd_46, dd_47, dd_48, dd_49, dd_50, dd_51, dd_52, dd_53, dd_54, dd_55, dd_56, dd_57, dd_58, dd_59, dd_60, dd_61, dd_62, dd_63, dd_64, dd_65, dd_66, dd_67, dd_68, dd_69, dd_70, dd_71, dd_72, dd_73, dd_74, dd_75, dd_76, dd_77, dd_78, dd_79]
def fnL_2 : List He.DefD := [dd_80, dd_81, dd_82, dd_83, dd_84, dd_85, dd_86, dd_87, dd_88, dd_89, dd_90, dd_91]
def fnL : List He.DefD := fnL_0 ++ fnL_1 ++ fnL_2
def faL_0 : List He.Fa := [.glo (Str.ofString "is_in"), .glo (Str.ofString "gcd"), .glo (Str.ofString "reduced"), .glo (Str.ofString "is_factor"), .glo (Str.ofString "need_table"), .glo (Str.ofString "need_player"), .glo (Str.ofString "owed_in"), .glo (Str.ofString "payers_in"), .glo (Str.ofString "need_factor"), .glo (Str.ofString "need_players"), .glo (Str.ofString "need_word"), .glo (Str.ofString "need_rounds"), .glo (Str.ofString "power"), .glo (Str.ofString "numbers_in"), .glo (Str.ofString "after_in"), .glo (Str.ofString "payable_in"), .glo (Str.ofString "need_both"), .glo (Str.ofString "line_of"), .glo (Str.ofString "moved_along"), .glo (Str.ofString "word_in")]
def faL_1 : List He.Fa := [.glo (Str.ofString "moved_in"), .glo (Str.ofString "moved_word"), .glo (Str.ofString "gains"), .glo (Str.ofString "handed"), .glo (Str.ofString "taken"), .glo (Str.ofString "most_moved"), .glo (Str.ofString "payer_order"), .glo (Str.ofString "times_paid"), .glo (Str.ofString "shared"), .glo (Str.ofString "step"), .glo (Str.ofString "forever_in"), .glo (Str.ofString "line"), .glo (Str.ofString "split"), .glo (Str.ofString "order_of"), .glo (Str.ofString "period_in"), .glo (Str.ofString "payers_along"), .glo (Str.ofString "shares"), .glo (Str.ofString "need_few"), .glo (Str.ofString "need_words"), .glo (Str.ofString "words_in_allwords")]
def faL_2 : List He.Fa := [.glo (Str.ofString "all_tables"), .glo (Str.ofString "cycle_lengths"), .glo (Str.ofString "ending"), .glo (Str.ofString "longest_word"), .glo (Str.ofString "ending_counts"), .glo (Str.ofString "need_let"), .glo (Str.ofString "need_bank"), .glo (Str.ofString "need_limit"), .glo (Str.ofString "floors_of"), .glo (Str.ofString "is_let"), .glo (Str.ofString "counts_in"), .glo (Str.ofString "words_in_credit"), .glo (Str.ofString "bank_count"), .glo (Str.ofString "bank_words"), .glo (Str.ofString "bank_least"), .glo (Str.ofString "limit_count"), .glo (Str.ofString "limit_words"), .glo (Str.ofString "least_limit"), .glo (Str.ofString "need_pair"), .glo (Str.ofString "exponent")]
def faL_3 : List He.Fa := [.glo (Str.ofString "pair_rounds"), .glo (Str.ofString "pair_step"), .glo (Str.ofString "pair_word"), .glo (Str.ofString "left_of"), .glo (Str.ofString "pair_coins"), .glo (Str.ofString "read_table"), .glo (Str.ofString "text_of"), .glo (Str.ofString "picture_in"), .glo (Str.ofString "picture"), .glo (Str.ofString "read_picture"), .glo (Str.ofString "need_tail"), .glo (Str.ofString "shares_in"), .glo (Str.ofString "shares_of"), .glo (Str.ofString "least_of"), .glo (Str.ofString "tail_in"), .glo (Str.ofString "tail_of"), .glo (Str.ofString "need_like"), .glo (Str.ofString "same_rounds"), .glo (Str.ofString "write_word"), .glo (Str.ofString "is_payer")]
def faL_4 : List He.Fa := [.glo (Str.ofString "read_part"), .glo (Str.ofString "read_times"), .glo (Str.ofString "read_word"), .glo (Str.ofString "_law_alike"), .glo (Str.ofString "law"), .meth (Str.ofString "Reader") (Str.ofString "__init__"), .meth (Str.ofString "Reader") (Str.ofString "sign"), .meth (Str.ofString "Reader") (Str.ofString "skip"), .meth (Str.ofString "Reader") (Str.ofString "take"), .meth (Str.ofString "Reader") (Str.ofString "factor"), .meth (Str.ofString "Reader") (Str.ofString "number"), .meth (Str.ofString "Reader") (Str.ofString "all_coins"), .glo (Str.ofString "Reader"), .cls (Str.ofString "Reader"), .mkr (Str.ofString "Reader"), .noat (Str.ofString "Reader") (Str.ofString "text"), .noat (Str.ofString "Reader") (Str.ofString "at"), .free (Str.ofString "abs"), .free (Str.ofString "bool"), .free (Str.ofString "enumerate")]
def faL_5 : List He.Fa := [.free (Str.ofString "int"), .free (Str.ofString "isinstance"), .free (Str.ofString "len"), .free (Str.ofString "list"), .free (Str.ofString "max"), .free (Str.ofString "min"), .free (Str.ofString "range"), .free (Str.ofString "sorted"), .free (Str.ofString "str"), .free (Str.ofString "sum"), .free (Str.ofString "tuple"), .free (Str.ofString "zip"), .str (Str.ofString "DIGITS_tabletext") (Str.ofString "0123456789"), .str (Str.ofString "DIGITS_wordtext") (Str.ofString "0123456789"), .int (Str.ofString "LEAST_FACTOR") 2, .int (Str.ofString "MOST_COINS") 1000000, .int (Str.ofString "MOST_ENDING") 60, .int (Str.ofString "MOST_FACTOR") 9, .int (Str.ofString "MOST_FAR") 1000000, .int (Str.ofString "MOST_LET") 12]
def faL_6 : List He.Fa := [.int (Str.ofString "MOST_LISTED") 4, .int (Str.ofString "MOST_LONG_allwords") 6, .int (Str.ofString "MOST_LONG_moving") 6, .int (Str.ofString "MOST_PLAYERS") 6, .int (Str.ofString "MOST_ROUNDS") 40, .int (Str.ofString "MOST_SINGLE") 2, .int (Str.ofString "MOST_TAIL") 60, .int (Str.ofString "MOST_WHOLE") 100, .int (Str.ofString "MOST_WORDS_allwords") 2000, .int (Str.ofString "MOST_WORDS_credit") 2000, .glo (Str.ofString "InvalidText")]
def faL : List He.Fa := faL_0 ++ faL_1 ++ faL_2 ++ faL_3 ++ faL_4 ++ faL_5 ++ faL_6
def loL_0 : List Str := [Str.ofString "PayError", Str.ofString "BadTable", Str.ofString "BadPlayer", Str.ofString "BadWord", Str.ofString "BadFactor", Str.ofString "BadPlayers", Str.ofString "BadCoins", Str.ofString "BadCount", Str.ofString "BadWhole", Str.ofString "NotText", Str.ofString "InvalidText", Str.ofString "TooMany", Str.ofString "BadLimit", Str.ofString "BadTail", Str.ofString "is_in", Str.ofString "gcd", Str.ofString "reduced", Str.ofString "MOST_PLAYERS", Str.ofString "MOST_COINS", Str.ofString "LEAST_FACTOR", Str.ofString "MOST_FACTOR", Str.ofString "is_factor", Str.ofString "need_table", Str.ofString "need_player", Str.ofString "owed_in", Str.ofString "payers_in", Str.ofString "MOST_ROUNDS", Str.ofString "need_factor", Str.ofString "need_players", Str.ofString "need_word", Str.ofString "need_rounds", Str.ofString "power", Str.ofString "numbers_in", Str.ofString "after_in", Str.ofString "payable_in", Str.ofString "MOST_LONG_moving", Str.ofString "need_both", Str.ofString "line_of", Str.ofString "moved_along", Str.ofString "word_in"]
def loL_1 : List Str := [Str.ofString "moved_in", Str.ofString "moved_word", Str.ofString "gains", Str.ofString "handed", Str.ofString "taken", Str.ofString "most_moved", Str.ofString "payer_order", Str.ofString "times_paid", Str.ofString "shared", Str.ofString "step", Str.ofString "forever_in", Str.ofString "line", Str.ofString "split", Str.ofString "order_of", Str.ofString "period_in", Str.ofString "payers_along", Str.ofString "MOST_LISTED", Str.ofString "MOST_WHOLE", Str.ofString "shares", Str.ofString "need_few", Str.ofString "MOST_WORDS_allwords", Str.ofString "MOST_LONG_allwords", Str.ofString "MOST_ENDING", Str.ofString "need_words", Str.ofString "words_in", Str.ofString "words_in_allwords", Str.ofString "all_tables", Str.ofString "cycle_lengths", Str.ofString "ending", Str.ofString "longest_word", Str.ofString "ending_counts", Str.ofString "MOST_LET", Str.ofString "MOST_WORDS_credit", Str.ofString "need_let", Str.ofString "need_bank", Str.ofString "need_limit", Str.ofString "floors_of", Str.ofString "is_let", Str.ofString "counts_in", Str.ofString "words_in_credit"]
def loL_2 : List Str := [Str.ofString "bank_count", Str.ofString "bank_words", Str.ofString "bank_least", Str.ofString "limit_count", Str.ofString "limit_words", Str.ofString "least_limit", Str.ofString "MOST_FAR", Str.ofString "need_pair", Str.ofString "exponent", Str.ofString "pair_rounds", Str.ofString "pair_step", Str.ofString "pair_word", Str.ofString "left_of", Str.ofString "pair_coins", Str.ofString "DIGITS_tabletext", Str.ofString "Reader", Str.ofString "read_table", Str.ofString "text_of", Str.ofString "picture_in", Str.ofString "picture", Str.ofString "read_picture", Str.ofString "MOST_TAIL", Str.ofString "need_tail", Str.ofString "shares_in", Str.ofString "shares_of", Str.ofString "least_of", Str.ofString "tail_in", Str.ofString "tail_of", Str.ofString "need_like", Str.ofString "same_rounds", Str.ofString "DIGITS_wordtext", Str.ofString "MOST_SINGLE", Str.ofString "write_word", Str.ofString "is_payer", Str.ofString "read_part", Str.ofString "read_times", Str.ofString "read_word", Str.ofString "_law_alike"]
def loL : List Str := loL_0 ++ loL_1 ++ loL_2
def xsL_0 : List Str := [Str.ofString "is_in", Str.ofString "gcd", Str.ofString "reduced", Str.ofString "is_factor", Str.ofString "need_table", Str.ofString "need_player", Str.ofString "owed_in", Str.ofString "payers_in", Str.ofString "need_factor", Str.ofString "need_players", Str.ofString "need_word", Str.ofString "need_rounds", Str.ofString "power", Str.ofString "numbers_in", Str.ofString "after_in", Str.ofString "payable_in", Str.ofString "need_both", Str.ofString "line_of", Str.ofString "moved_along", Str.ofString "word_in", Str.ofString "moved_in", Str.ofString "moved_word", Str.ofString "gains", Str.ofString "handed", Str.ofString "taken", Str.ofString "most_moved", Str.ofString "payer_order", Str.ofString "times_paid", Str.ofString "shared", Str.ofString "step", Str.ofString "forever_in", Str.ofString "line", Str.ofString "split", Str.ofString "order_of", Str.ofString "period_in", Str.ofString "payers_along", Str.ofString "shares", Str.ofString "need_few", Str.ofString "need_words", Str.ofString "words_in_allwords"]
def xsL_1 : List Str := [Str.ofString "all_tables", Str.ofString "cycle_lengths", Str.ofString "ending", Str.ofString "longest_word", Str.ofString "ending_counts", Str.ofString "need_let", Str.ofString "need_bank", Str.ofString "need_limit", Str.ofString "floors_of", Str.ofString "is_let", Str.ofString "counts_in", Str.ofString "words_in_credit", Str.ofString "bank_count", Str.ofString "bank_words", Str.ofString "bank_least", Str.ofString "limit_count", Str.ofString "limit_words", Str.ofString "least_limit", Str.ofString "need_pair", Str.ofString "exponent", Str.ofString "pair_rounds", Str.ofString "pair_step", Str.ofString "pair_word", Str.ofString "left_of", Str.ofString "pair_coins", Str.ofString "read_table", Str.ofString "text_of", Str.ofString "picture_in", Str.ofString "picture", Str.ofString "read_picture", Str.ofString "need_tail", Str.ofString "shares_in", Str.ofString "shares_of", Str.ofString "least_of", Str.ofString "tail_in", Str.ofString "tail_of", Str.ofString "need_like", Str.ofString "same_rounds", Str.ofString "write_word", Str.ofString "is_payer"]
def xsL_2 : List Str := [Str.ofString "read_part", Str.ofString "read_times", Str.ofString "read_word", Str.ofString "_law_alike", Str.ofString "law"]
def xsL : List Str := xsL_0 ++ xsL_1 ++ xsL_2
def csL : List Str := [Str.ofString "Reader"]
abbrev RR : PySem.W.OpenRow := PySem.W.OpenLaw.row PySem.Challenge.rw_doublepay_k66_known_pairs
abbrev hkM : PySem.W.Hook := hookM xsL csL faL fnL
def obT (s : PySem.W.SharedT) : He.AlD := obsM xsL csL faL fnL (HandSHeadRun.getT s)
theorem obT_eq (s : PySem.W.SharedT) : obT s = hkM.obs s.abs := obsM_eq (HandSHeadRun.getT_eq s)
set_option maxHeartbeats 0 in
theorem run_top (w : World) : HandSHeadRun.RunEq RR (PySem.W.view RR.prog [134]) hkM obT 9000 loL w := by
  intro os
  kernel_rfl
end DP
/-! DPL: a small language, its evaluator. Values are PyData; a list that one name alone holds is changed in place. -/
namespace DP
open PySem

abbrev D := PyData
inductive SV where
  | un
  | val (d : D)
  | own (ds : List D)
  | row (ds : List D)
  | dct (lk : Bool) (kvs : List (List Int × D))
  | dk (kvs : List (L2.Key × D))
  | gho (ds : List D)
  | oll (lo n : Nat)
  | rdc (kvs : List (List Int × D))
  | obj (fs : List (Str × D))
abbrev Rho := List SV
abbrev FT := Nat → Option (List D) → List D → Option (SV × List D)

inductive Op2 where
  | add | sub | mul | fdiv | mod | pow
inductive Cm where
  | eq | ne | lt | le | gt | ge | isin | notin | is_ | nis
inductive Ty where
  | int | bool | tuple | list | str
inductive B1 where
  | len | sum | tuple | list | int | abs | max | min | sorted | str
inductive B2 where
  | max | min
inductive Mf where
  | count | index
/-- dicts with tuples of ints as keys -/
inductive Dx where
  | new | isin | nin | get | getd | len | keys | skeys
/-- further operations: dicts with ints and texts as keys, lists of lists -/
inductive Xo where
  | knew | kin | knin | kget | kgetd | kskeys | m2 | mtt | tjoin | fget
  | trep (y z : Str)
inductive Tg where
  | one (i : Nat)
  | many (is : List Nat)

inductive E where
  | var (i : Nat) | non | dc0 | lset (a : E) | ten (a : E) | sst (a : E) | d1 (k v : E) | vsum (a : E) | kys (a : E) | cme (j : Nat) | bl (b : Bool) | int (i : Int) | str (x : Str)
  | op (o : Op2) (a b : E) | neg (a : E) | not (a : E) | and (a b : E) | or (a b : E) | ife (c a b : E)
  | isn (a : E) | isnt (a : E) | cmp (o : Cm) (a b : E) | chain (o p : Cm) (a b c : E)
  | tup (es : E) | lst (es : E) | idx (a i : E) | slice (a lo hi : E) | rev (a : E)
  | comp (el it : E) (t : Tg) (cond : E) (vs : List Nat)
  | call (f : Nat) (es : E) | callr (f r : Nat) (es : E) | ln (f j : Nat) | pop (j : Nat) | cmn (j : Nat)
  | isi (a : E) (t : Ty) | isi2 (a : E) (t u : Ty)
  | blt1 (f : B1) (a : E) | blt2 (f : B2) (a b : E) | lrng (it : E) | trg (it : E) | meth (m : Mf) (o a : E)
  | nil | cons (e es : E)
  | dx (o : Dx) (j : Nat) (a b : E) | xt (o : Xo) (j : Nat) (a b : E)
  | comp2 (el it : E) (t : Tg) (cond : E) (vs : List Nat) (it2 : E) (t2 : Tg) (cond2 : E) (vs2 : List Nat)
  | fz (js : List Nat) (e : E)
  | seq (e : E) | rng1 (a : E) | rng2 (a b : E) | enum (e : E) | zip (a b : E)

inductive S where
  | skip | seq (a b : S)
  | set (i : Nat) (e : E) | par (is : List Nat) (es : E) | unp (is : List Nat) (e : E)
  | seti (j : Nat) (ix e : E) | augi (j : Nat) (ix : E) (o : Op2) (e : E) | aug (i : Nat) (o : Op2) (e : E) | app (j : Nat) (e : E)
  | expr (e : E) | for_ (t : Tg) (it : E) (b : S) | while_ (c : E) (b : S) | ite (c : E) (a b : S)
  | dkp (j : Nat) (k e : E) | mnew (j lo mx v ia ib : Nat) | mset (j : Nat) (a b e : E) | maug (j : Nat) (a b : E) (o : Op2) (e : E) | parm (i1 : Nat) (e1 : E) (i2 : Nat) (e2 : E) (j lo mx v ia ib : Nat)
  | dput (j : Nat) (k e : E) | mov (i j : Nat) | fz (js : List Nat) (s : S)
  | fneq (fs : List Nat) (i a b : Nat) (r : S)
  | fset (j : Nat) (f : Str) (e : E) | faug (j : Nat) (f : Str) (o : Op2) (e : E) | mko (j f : Nat) (e : E) | trn (s : S)
  | ret (e : E) | retn | pass | brk | cont | never

inductive Out where
  | nx | bk | ct
  | rt (v : SV)

/-! ### values -/
def frz : SV → Option D
  | .val d => some d
  | .own ds => some (.list ds)
  | _ => none
def truth : SV → Option Bool
  | .val (.bool b) => some b
  | _ => none
def isNon : D → Bool
  | .none => true
  | _ => false
/-- a pair that a loop over enumerate or zip makes: it is only taken apart -/
def prD (ds : List D) : D := .dict [(.bool true, .tuple ds)]
def scrD (ns : List Int) : D := .dict [(.none, .list (ns.map .int))]
def big (i : Int) : Bool := decide (i.natAbs.log2 < 9000)
def okL (n : Nat) : Bool := decide (n.log2 < 24)
theorem okL_lt {n : Nat} (h : okL n = true) : n < 16777216 := by
  have h := of_decide_eq_true h
  rcases Nat.eq_zero_or_pos n with e | e
  · subst e; decide
  · exact (Nat.log2_lt (k := 24) (by omega)).mp h
theorem okL_of {n : Nat} (h : n < 16777216) : okL n = true := by
  apply decide_eq_true
  rcases Nat.eq_zero_or_pos n with e | e
  · subst e; decide
  · exact (Nat.log2_lt (k := 24) (by omega)).mpr h
def repD (ds : List D) (k : Nat) : List D := (List.replicate k ds).flatten
def op2 : Op2 → D → D → Option SV
  | .add, .int i, .int j => some (.val (.int (i + j)))
  | .add, .list a, .list b => if okL (a.length + b.length) then some (.own (a ++ b)) else none
  | .add, .tuple a, .tuple b => if okL (a.length + b.length) then some (.val (.tuple (a ++ b))) else none
  | .add, .str a, .str b => if okL (a.length + b.length) then some (.val (.str (a ++ b))) else none
  | .sub, .int i, .int j => some (.val (.int (i - j)))
  | .mul, .int i, .int j => if big i && big j then some (.val (.int (i * j))) else none
  | .mul, .list a, .int k => if okL (a.length * k.toNat) && decide (k < 1000000) && decide (-1000000 < k) then some (.own (repD a k.toNat)) else none
  | .mul, .tuple a, .int k => if decide (k ≤ 1000) && decide (-1000 ≤ k) && decide (0 < a.length) && decide (a.length ≤ 1000) then some (.val (.tuple (repD a k.toNat))) else none
  | .fdiv, .int i, .int j => if decide (0 < j) && big j then some (.val (.int (i / j))) else none
  | .mod, .int i, .int j => if decide (0 < j) then some (.val (.int (i % j))) else none
  | .pow, .int i, .int j => if decide (0 ≤ j) && decide (j ≤ 1000000) && decide (i.natAbs < 2 ^ 64) then some (.val (.int (i ^ j.toNat))) else none
  | _, _, _ => none
def flatD : D → Bool
  | .none => true
  | .bool _ => true
  | .int _ => true
  | .str _ => true
  | _ => false
def shp (d : D) : Bool := SeqAt.shaped d
/-! the order of data -/
def ltD (x y : D) : Bool := PySem.W.dataLt x y
def insD (x : D) : List D → List D
  | [] => [x]
  | y :: r => if (!ltD y x) = true then x :: y :: r else y :: insD x r
def srtD : List D → List D
  | [] => []
  | x :: r => insD x (srtD r)
def isTu : D → Bool
  | .tuple _ => true
  | _ => false
def neTu : D → Bool
  | .tuple (_ :: _) => true
  | _ => false
def alkD (ds : List D) : Bool := ds.all fun d => shp d && !(match d with | .none => true | _ => false) && ds.all fun e => PySem.W.alike d e
def okSrt (ds : List D) : Bool := decide (ds.length < 2) || (alkD ds && ds.all neTu)
def ob {α β : Type} (x : Option α) (f : α → Option β) : Option β := match x with
  | some a => f a
  | none => none
def intsD : List D → Option (List Int)
  | [] => some []
  | .int i :: r => (intsD r).map (i :: ·)
  | _ => none
/-- the only sign of a text -/
def signTx (a : Str) : Option Nat := match a.cps.toList with
  | [c] => some c
  | _ => none
def cmp2 : Cm → D → D → Option Bool
  | .eq, .int i, .int j => some (decide (i = j))
  | .ne, .int i, .int j => some (!decide (i = j))
  | .eq, x, y => if shp x && shp y then some (PyData.eqv x y) else none
  | .ne, x, y => if shp x && shp y then some (!PyData.eqv x y) else none
  | .lt, .int i, .int j => some (decide (i < j))
  | .le, .int i, .int j => some (decide (i ≤ j))
  | .lt, .tuple xs, .tuple ys => (match intsD xs, intsD ys with
    | some ns, some ms => some (HT.lexLt ns ms)
    | _, _ => if shp (.tuple xs) && shp (.tuple ys) && PySem.W.alike (.tuple xs) (.tuple ys) then some (ltD (.tuple xs) (.tuple ys)) else none)
  | .gt, .int i, .int j => some (decide (j < i))
  | .ge, .int i, .int j => some (decide (j ≤ i))
  | .gt, .tuple xs, .tuple ys => if shp (.tuple xs) && shp (.tuple ys) && PySem.W.alike (.tuple xs) (.tuple ys) then some (ltD (.tuple ys) (.tuple xs)) else none
  | .le, .tuple xs, .tuple ys => if shp (.tuple xs) && shp (.tuple ys) && PySem.W.alike (.tuple xs) (.tuple ys) then some (!ltD (.tuple ys) (.tuple xs)) else none
  | .is_, .bool a, .bool b => some (decide (a = b))
  | .nis, .bool a, .bool b => some (!decide (a = b))
  | .isin, x, .list ys => if shp x && shp (.list ys) then some (ys.any fun z => PyData.eqv z x) else none
  | .notin, x, .list ys => if shp x && shp (.list ys) then some (!ys.any fun z => PyData.eqv z x) else none
  | .isin, x, .tuple ys => if flatD x && ys.all flatD then some (ys.any fun z => PyData.eqv z x) else none
  | .notin, x, .tuple ys => if flatD x && ys.all flatD then some (!ys.any fun z => PyData.eqv z x) else none
  | .isin, .str a, .str z => ob (signTx a) fun c => some (decide (c ∈ z.cps.toList))
  | .notin, .str a, .str z => ob (signTx a) fun c => some (!decide (c ∈ z.cps.toList))
  | _, _, _ => none
def strD : D → Option Str
  | .str z => some z
  | _ => none
/-- one sign of a text -/
def idxT (z : Str) (i : Int) : Option Str := if okL z.length = true then ob (L2.atI z.cps.toList i) fun c => some ⟨#[c]⟩ else none
/-- the text of an int -/
def intS (i : Int) : Str := Str.ofString (toString i)
def strsD : List D → Option (List Str)
  | [] => some []
  | .str z :: r => (strsD r).map (z :: ·)
  | _ => none
def ixD (ds : List D) (i : Int) : Option D := L2.atI ds i
def itemsD : D → Option (List D)
  | .list ds => some ds
  | .tuple ds => some ds
  | .dict [(.none, .list ds)] => some ds
  | _ => none
def idx2 (x : D) : D → Option D
  | .int i => (match strD x with
    | some z => ob (idxT z i) fun y => some (.str y)
    | none => ob (itemsD x) fun ds => ixD ds i)
  | _ => none
def cutD (ds : List D) (lo hi : Option Int) : List D := (ds.drop (HT.sIx ds.length 0 lo)).take (HT.sIx ds.length ds.length hi - HT.sIx ds.length 0 lo)
def slice3 (lo hi : Option Int) : D → Option SV
  | .list ds => some (.own (cutD ds lo hi))
  | .tuple ds => some (.val (.tuple (cutD ds lo hi)))
  | .str z => if okL z.length = true then some (.val (.str (L2.cutS z lo hi))) else none
  | _ => none
def partD : D → Option (Option Int)
  | .int i => some (some i)
  | _ => none
def seqD : D → Option (List D)
  | .list ds => some ds
  | .tuple ds => some ds
  | _ => none
def maxI : Int → List Int → Int
  | m, [] => m
  | m, x :: r => maxI (if m < x then x else m) r
def minI : Int → List Int → Int
  | m, [] => m
  | m, x :: r => minI (if x < m then x else m) r
def insI (x : Int) : List Int → List Int
  | [] => [x]
  | y :: r => if x ≤ y then x :: y :: r else y :: insI x r
def sortI : List Int → List Int
  | [] => []
  | x :: r => insI x (sortI r)
def blt1 : B1 → D → Option SV
  | .len, .str z => if okL z.length = true then some (.val (.int z.length)) else none
  | .str, .int i => if i.natAbs.log2 < 1920 then some (.val (.str (intS i))) else none
  | .int, .str z => if z.length ≤ 640 then ob (PySem.intText? z) fun n => some (.val (.int n)) else none
  | .len, d => ob (itemsD d) fun ds => some (.val (.int ds.length))
  | .sum, d => ob (seqD d) fun ds => ob (intsD ds) fun ns => some (.val (.int ns.sum))
  | .tuple, .list ds => some (.val (.tuple ds))
  | .tuple, .tuple ds => some (.val (.tuple ds))
  | .list, .str z => if okL z.length = true then some (.own (z.cps.toList.map fun c => .str ⟨#[c]⟩)) else none
  | .list, .list ds => some (.own ds)
  | .list, .tuple ds => some (.own ds)
  | .int, .int i => some (.val (.int i))
  | .int, .bool b => some (.val (.int (if b then 1 else 0)))
  | .abs, .int i => some (.val (.int (if i < 0 then -i else i)))
  | .max, d => ob (seqD d) fun ds => (match intsD ds with
    | some ns => (match ns with | [] => none | x :: r => some (.val (.int (maxI x r))))
    | none => (match ds with | [] => none | x :: r => if alkD (x :: r) then some (.val (PySem.W.maxD x r)) else none))
  | .min, d => ob (seqD d) fun ds => (match intsD ds with
    | some ns => (match ns with | [] => none | x :: r => some (.val (.int (minI x r))))
    | none => (match ds with | [] => none | x :: r => if alkD (x :: r) then some (.val (PySem.W.minD x r)) else none))
  | .sorted, .list ds => (match intsD ds with
    | some ns => some (.own ((sortI ns).map .int))
    | none => if okSrt ds then some (.own (srtD ds)) else none)
  | .sorted, .tuple ds => (match intsD ds with
    | some ns => some (.own ((sortI ns).map .int))
    | none => none)
  | _, _ => none
def blt2 : B2 → D → D → Option D
  | .max, .int i, .int j => some (.int (if i < j then j else i))
  | .min, .int i, .int j => some (.int (if j < i then j else i))
  | _, _, _ => none
def tyD : D → Option Ty
  | .bool _ => some .bool
  | .int _ => some .int
  | .str _ => some .str
  | .list _ => some .list
  | .tuple _ => some .tuple
  | _ => none
def isiT (d : D) (t : Ty) : Option Bool := match d, t with
  | .none, _ => some false
  | .bool _, .bool => some true
  | .bool _, .int => some true
  | .bool _, _ => some false
  | .int _, .int => some true
  | .int _, _ => some false
  | .str _, .str => some true
  | .str _, _ => some false
  | .list _, .list => some true
  | .list _, _ => some false
  | .tuple _, .tuple => some true
  | .tuple _, _ => some false
  | .dict [], _ => some false
  | .dict _, _ => none
def methD : Mf → D → D → Option D
  | .count, .list ds, y => if shp y && shp (.list ds) then some (.int (ds.countP fun z => PyData.eqv z y : Nat)) else none
  | .index, .list ds, y => if shp y && shp (.list ds) then ob (ds.findIdx? fun z => PyData.eqv z y) fun j => some (.int (j : Nat)) else none
  | .count, .tuple ds, y => if shp y && shp (.tuple ds) then some (.int (ds.countP fun z => PyData.eqv z y : Nat)) else none
  | .index, .tuple ds, y => if shp y && shp (.tuple ds) then ob (ds.findIdx? fun z => PyData.eqv z y) fun j => some (.int (j : Nat)) else none
  | _, _, _ => none
def kndD : D → Nat
  | .list _ => 1
  | .tuple _ => 2
  | _ => 0
def valD (kvs : List (List Int × D)) (k : List Int) : Option D := (kvs.find? fun p => decide (p.1 = k)).map (·.2)
def putD (kvs : List (List Int × D)) (k : List Int) (v : D) : List (List Int × D) :=
  if (kvs.any fun p => decide (p.1 = k)) = true then kvs.map (fun p => if p.1 = k then (p.1, v) else p) else kvs ++ [(k, v)]
def keysD (kvs : List (List Int × D)) : List D := kvs.map fun p => .tuple (p.1.map .int)
def keyD : D → Option (List Int)
  | .tuple ds => intsD ds
  | _ => none
def keysOf : List D → Option (List (List Int))
  | [] => some []
  | d :: r => (match keyD d, keysOf r with | some k, some ks => some (k :: ks) | _, _ => none)
/-- the unlike ones, in the order in which they are met -/
def dst {α : Type} [BEq α] (xs : List α) : List α := xs.foldl (fun s k => if s.any (· == k) then s else s ++ [k]) []
/-- len(set(x)): ints, or few tuples of ints -/
def lsetD (d : D) : Option Nat := ob (seqD d) fun ds => (match intsD ds with
  | some ns => if ns.length ≤ 4000 then some (dst ns).length else none
  | none => (match d with
    | .list _ => ob (keysOf ds) fun ks => if ks.length < 64 then some (dst ks).length else none
    | _ => none))
/-- sorted(set(x)), x a list of ints -/
def sstD : D → Option (List Int)
  | .list ds => ob (intsD ds) fun ns => if ns.length ≤ 4000 ∧ (dst ns).length < 64 then some (sortI (dst ns)) else none
  | _ => none
/-- tuple(enumerate(x)) -/
def tenD : Nat → List D → List D
  | _, [] => []
  | k, d :: ds => .tuple [.int (k : Nat), d] :: tenD (k + 1) ds
def tenL : D → Option (List D)
  | .list ds => some ds
  | _ => none
def sumK (kvs : List (List Int × D)) : Option Int := (intsD (kvs.map (·.2))).map (·.sum)

/-- defs that are lent a dict bear these numbers -/
def isDl (f : Nat) : Bool := decide (800000 ≤ f)
/-- methods of the own class bear these numbers -/
def isOb (f : Nat) : Bool := decide (900000 ≤ f)
theorem isOb_dl {f : Nat} (h : isDl f = false) : isOb f = false := decide_eq_false (by have := of_decide_eq_false h; omega)
/-- where the own class stands -/
class ClsA where
  a : Nat
instance (priority := low) ClsA.none : ClsA := ⟨0⟩
/-! ### environments -/
def rd (ρ : Rho) (i : Nat) : SV := ρ.getD i .un
/-- store; a slot that holds the row is never stored to -/
def put (ρ : Rho) (i : Nat) (v : SV) : Option Rho := match ρ[i]? with
  | some (.row _) => none
  | some (.rdc _) => none
  | some (.obj _) => none
  | some _ => some (ρ.set i v)
  | none => none
def puts : Rho → List Nat → List SV → Option Rho
  | ρ, [], [] => some ρ
  | ρ, i :: is, v :: vs => match put ρ i v with | some ρ1 => puts ρ1 is vs | none => none
  | _, _, _ => none
def bindT : Tg → D → Rho → Option Rho
  | .one i, d, ρ => put ρ i (.val d)
  | .many is, .tuple ds, ρ => puts ρ is (ds.map .val)
  | .many is, .dict [(.bool true, .tuple ds)], ρ => puts ρ is (ds.map .val)
  | _, _, _ => none
def wipe (ρ : Rho) : List Nat → Rho
  | [] => ρ
  | v :: vs => (wipe ρ vs).set v .un
/-- the slots vs as they were ahead of a comprehension -/
def back (ρ₀ ρ : Rho) : List Nat → Rho
  | [] => ρ
  | v :: vs => (back ρ₀ ρ vs).set v (match rd ρ₀ v with | .gho _ => .un | .oll _ _ => .un | x => x)
def isVar : E → Option Nat
  | .var i => some i
  | _ => none
def slotD (ρ : Rho) (i : Nat) : Option D := match rd ρ i with
  | .val d => some d
  | .own ds => some (.list ds)
  | .row ds => some (.list ds)
  | _ => none
def slotL (ρ : Rho) (i : Nat) : Option (List D) := match rd ρ i with
  | .own ds => some ds
  | .row ds => some ds
  | _ => none
/-- the slot's list is changed in place -/
def putL (ρ : Rho) (i : Nat) (ds : List D) : Option Rho := match rd ρ i with
  | .own _ => some (ρ.set i (.own ds))
  | .row _ => some (ρ.set i (.row ds))
  | _ => none
def slotK (ρ : Rho) (i : Nat) : Option (List (List Int × D)) := match rd ρ i with
  | .dct _ kvs => some kvs
  | .rdc kvs => some kvs
  | _ => none
def slotF (ρ : Rho) (i : Nat) : Option (List (List Int × D)) := match rd ρ i with
  | .dct _ kvs => some kvs
  | _ => none
/-- the slot's dict, that may be changed -/
def slotU (ρ : Rho) (i : Nat) : Option (List (List Int × D)) := match rd ρ i with
  | .dct false kvs => some kvs
  | _ => none
/-- the slot's dict, its own or lent to it -/
def slotV (ρ : Rho) (i : Nat) : Option (Bool × List (List Int × D)) := match rd ρ i with
  | .dct false kvs => some (false, kvs)
  | .rdc kvs => some (true, kvs)
  | _ => none
def mkV (b : Bool) (kvs : List (List Int × D)) : SV := if b = true then .rdc kvs else .dct false kvs
/-- a dict told as data -/
def encK (kvs : List (List Int × D)) : List D := kvs.map fun p => .tuple [.tuple (p.1.map .int), p.2]
def decK : List D → Option (List (List Int × D))
  | [] => some []
  | .tuple [k, v] :: r => (match keyD k, decK r with | some ks, some q => some ((ks, v) :: q) | _, _ => none)
  | _ => none
/-- the fields of the own class -/
def okF (fs : List (Str × D)) : Bool := fs.all fun p => decide (p.1 = Str.ofString "text") || decide (p.1 = Str.ofString "at")
/-- the slot's instance: its fields -/
def slotO (ρ : Rho) (i : Nat) : Option (List (Str × D)) := match rd ρ i with
  | .obj fs => if okF fs = true then some fs else none
  | _ => none
/-- an instance told as data -/
def encO (fs : List (Str × D)) : List D := fs.map fun p => .tuple [.str p.1, p.2]
def decO : List D → Option (List (Str × D))
  | [] => some []
  | .tuple [.str f, v] :: r => (match decO r with | some q => some ((f, v) :: q) | none => none)
  | _ => none
def putO (f : Str) (v : D) : List (Str × D) → List (Str × D)
  | [] => [(f, v)]
  | (g, x) :: r => if g = f then (g, v) :: r else (g, x) :: putO f v r
/-- the slot's dict of ints and texts -/
def slotC (ρ : Rho) (i : Nat) : Option (List (L2.Key × D)) := match rd ρ i with
  | .dk kvs => some kvs
  | _ => none
def kD : D → Option L2.Key
  | .int i => some (.inl i)
  | .str x => some (.inr x)
  | _ => none
def vK (kvs : List (L2.Key × D)) (k : L2.Key) : Option D := (kvs.find? fun p => decide (p.1 = k)).map (·.2)
def pK (kvs : List (L2.Key × D)) (k : L2.Key) (v : D) : List (L2.Key × D) :=
  if (kvs.any fun p => decide (p.1 = k)) = true then kvs.map (fun p => if p.1 = k then (p.1, v) else p) else kvs ++ [(k, v)]
def intK : List (L2.Key × D) → Option (List Int)
  | [] => some []
  | (.inl i, _) :: r => (intK r).map (i :: ·)
  | _ => none
/-! lists of lists: the rows stand in ghost slots, that no name of the program reaches -/
def slotI (ρ : Rho) (i : Nat) : Option Int := match rd ρ i with
  | .val (.int n) => some n
  | _ => none
def slotM (ρ : Rho) (i : Nat) : Option (Nat × Nat) := match rd ρ i with
  | .oll lo n => some (lo, n)
  | _ => none
def slotG (ρ : Rho) (i : Nat) : Option (List D) := match rd ρ i with
  | .gho ds => some ds
  | _ => none
def isOll : SV → Bool
  | .oll _ _ => true
  | _ => false
def isUn : SV → Bool
  | .un => true
  | _ => false
/-- the first n ghosts filled -/
def fillG (ρ : Rho) (lo : Nat) (ds : List D) : Nat → Rho
  | 0 => ρ
  | n + 1 => (fillG ρ lo ds n).set (lo + n) (.gho ds)
def rowsG (ρ : Rho) (lo : Nat) : Nat → Option (List D)
  | 0 => some []
  | n + 1 => ob (rowsG ρ lo n) fun rs => ob (slotG ρ (lo + n)) fun ds => some (rs ++ [.tuple ds])
/-- the rows of [[0] * a for v in range(b)] -/
def newG (ρ : Rho) (j lo mx v : Nat) (a b : Int) : Option Rho :=
  if (decide (0 ≤ a) && decide (a ≤ 1000) && decide (0 ≤ b)) && (decide (b.toNat ≤ mx) && decide (mx ≤ 1000)) && ((List.range mx).all (fun k => match ρ[lo + k]? with | some .un => true | _ => false) && ρ.all (fun w => !isOll w)) && (decide (j < lo) && decide (v < lo)) then
    some (fillG (back ρ (wipe ρ [v]) [v]) lo (List.replicate a.toNat (.int 0)) b.toNat) else none
def compL (f : D → Rho → Option (List D × Rho)) : List D → Rho → Option (List D × Rho)
  | [], ρ => some ([], ρ)
  | x :: xs, ρ => match f x ρ with
    | none => none
    | some (ys, ρ1) => match compL f xs ρ1 with
      | none => none
      | some (zs, ρ2) => some (ys ++ zs, ρ2)
def zipD : List D → List D → List D
  | x :: xs, y :: ys => prD [x, y] :: zipD xs ys
  | _, _ => []
def enumD : Nat → List D → List D
  | _, [] => []
  | n, x :: xs => prD [.int n, x] :: enumD (n + 1) xs
def rngD (a b : Int) : List D := (List.range (b - a).toNat).map fun i => .int (a + (i : Nat))
def rngOk (a : Int) : Bool := decide (a.natAbs.log2 < 29)

theorem rngOk_lt {n : Int} (h : rngOk n = true) : -1000000000 < n ∧ n < 1000000000 := by
  have h := of_decide_eq_true h
  rcases Nat.eq_zero_or_pos n.natAbs with e | e
  · omega
  · have := (Nat.log2_lt (n := n.natAbs) (k := 29) (by omega)).mp h
    omega
theorem rngOk_of {a : Int} (h1 : -500000000 < a) (h2 : a < 500000000) : rngOk a = true := by
  apply decide_eq_true
  rcases Nat.eq_zero_or_pos a.natAbs with e | e
  · rw [e]; decide
  · exact (Nat.log2_lt (k := 29) (by omega)).mpr (by omega)
def bd {α β : Type} (x : Option (α × Rho)) (f : α → Rho → Option β) : Option β := match x with
  | some (a, r) => f a r
  | none => none
def bz {β : Type} (x : Option (SV × Rho)) (f : D → Rho → Option β) : Option β := match x with
  | some (v, r) => (match frz v with | some d => f d r | none => none)
  | none => none
def bt {β : Type} (x : Option (SV × Rho)) (f : Bool → Rho → Option β) : Option β := match x with
  | some (v, r) => (match truth v with | some d => f d r | none => none)
  | none => none
/-- lists that names hold are frozen -/
def thawR (ρ : Rho) : List Nat → Rho
  | [] => ρ
  | j :: js => thawR (match rd ρ j with | .own ds => ρ.set j (.val (.list ds)) | _ => ρ) js
def isNil : E → Bool
  | .nil => true
  | _ => false
/-- read: a list that a name holds stays the name's own -/
def rdr (ρ : Rho) (a : E) (r : Option (SV × Rho)) : Option (D × Rho) := match isVar a with
  | some i => ob (slotD ρ i) fun d => some (d, ρ)
  | none => bz r fun d ρ1 => some (d, ρ1)
/-- a part of a slice, that may be left out -/
def prt (ρ : Rho) (a : E) (r : Option (SV × Rho)) : Option (Option Int × Rho) := match isNil a with
  | true => some (none, ρ)
  | false => bz r fun d ρ1 => ob (partD d) fun o => some (o, ρ1)
/-- the test of a clause, that may be left out -/
def cnd (ρ : Rho) (a : E) (r : Option (SV × Rho)) : Option (Bool × Rho) := match isNil a with
  | true => some (true, ρ)
  | false => bt r fun k ρ1 => some (k, ρ1)

def sumS (zs : List Str) : Nat := (zs.map (·.length)).sum
/-- a.join(b) -/
def joinD (x y : D) : Option SV := ob (strD x) fun a => ob (seqD y) fun ds => ob (strsD ds) fun zs => if sumS zs + zs.length * a.length ≤ 16777216 then some (.val (.str (Txt.join a zs))) else none
/-- a + b.replace(y, z) -/
def trepD (y z : Str) (a : Str) : D → Option SV
  | .str t => if okL (t.length + (t.length + 1) * z.length) && okL (a.length + (Txt.replace t y z).length) then some (.val (.str (a ++ Txt.replace t y z))) else none
  | _ => none
/-! ### the evaluator -/
def evx (o : Xo) (j : Nat) (fa fb : Rho → Option (SV × Rho)) (ρ : Rho) : Option (SV × Rho) := match o with
  | .knew => some (.dk [], ρ)
  | .kin => bz (fa ρ) fun y ρ1 => ob (kD y) fun k => ob (slotC ρ1 j) fun kvs => some (.val (.bool (vK kvs k).isSome), ρ1)
  | .knin => bz (fa ρ) fun y ρ1 => ob (kD y) fun k => ob (slotC ρ1 j) fun kvs => some (.val (.bool (!(vK kvs k).isSome)), ρ1)
  | .kget => ob (slotC ρ j) fun _ => bz (fa ρ) fun y ρ1 => ob (kD y) fun k => ob (slotC ρ1 j) fun kvs => ob (vK kvs k) fun d => some (.val d, ρ1)
  | .kgetd => ob (slotC ρ j) fun _ => bz (fa ρ) fun y ρ1 => bz (fb ρ1) fun z ρ2 => ob (kD y) fun k => ob (slotC ρ2 j) fun kvs => some (.val ((vK kvs k).getD z), ρ2)
  | .kskeys => ob (slotC ρ j) fun kvs => ob (intK kvs) fun ns => some (.own ((sortI ns).map .int), ρ)
  | .fget => ob (slotO ρ j) fun fs => bz (fa ρ) fun x ρ1 => (match x with
    | .str f => ob (fs.lookup f) fun d => some (.val d, ρ)
    | _ => none)
  | .tjoin => bz (fa ρ) fun x ρ1 => bz (fb ρ1) fun y ρ2 => ob (joinD x y) fun w => some (w, ρ2)
  | .trep y z => bz (fa ρ) fun x ρ1 => bz (fb ρ1) fun w ρ2 => ob (strD x) fun s => ob (trepD y z s w) fun v => some (v, ρ2)
  | .m2 => ob (slotM ρ j) fun _ => bz (fa ρ) fun x ρ1 => (match x with
    | .int k => ob (slotM ρ1 j) fun q => ob (L2.ixN q.2 k) fun i => ob (slotG ρ1 (q.1 + i)) fun _ => bz (fb ρ1) fun y ρ2 => (match y with
      | .int m => ob (slotG ρ2 (q.1 + i)) fun ds => ob (ixD ds m) fun d => some (.val d, ρ2)
      | _ => none)
    | _ => none)
  | .mtt => ob (slotM ρ j) fun q => ob (rowsG ρ q.1 q.2) fun rs => if okL rs.length then some (.val (.tuple rs), ρ) else none
mutual
def ev (c : FT) : E → Rho → Option (SV × Rho)
  | .var i, ρ => (match rd ρ i with
    | .val d => some (.val d, ρ)
    | .own ds => some (.val (.list ds), ρ.set i (.val (.list ds)))
    | _ => none)
  | .non, ρ => some (.val .none, ρ)
  | .dc0, ρ => some (.val (.dict []), ρ)
  | .lset a, ρ => bd (rdr ρ a (ev c a ρ)) fun x ρ1 => ob (lsetD x) fun n => some (.val (.int (n : Nat)), ρ1)
  | .ten a, ρ => bd (rdr ρ a (ev c a ρ)) fun x ρ1 => ob (tenL x) fun ds => if okL ds.length then some (.val (.tuple (tenD 0 ds)), ρ1) else none
  | .sst a, ρ => bd (rdr ρ a (ev c a ρ)) fun x ρ1 => ob (sstD x) fun ns => some (.own (ns.map .int), ρ1)
  | .d1 k v, ρ => bz (ev c k ρ) fun y ρ1 => bz (ev c v ρ1) fun d ρ2 => ob (keyD y) fun ks => some (.dct false [(ks, d)], ρ2)
  | .vsum a, ρ => (match ev c a ρ with
    | some (.dct false kvs, ρ1) => ob (sumK kvs) fun n => some (.val (.int n), ρ1)
    | _ => none)
  | .cme j, ρ => ob (slotD ρ j) fun x => ob (cmp2 .eq x (.list [])) fun t => some (.val (.bool t), ρ)
  | .bl b, ρ => some (.val (.bool b), ρ)
  | .int i, ρ => some (.val (.int i), ρ)
  | .str x, ρ => some (.val (.str x), ρ)
  | .op o a b, ρ => bz (ev c a ρ) fun x ρ1 => bz (ev c b ρ1) fun y ρ2 => ob (op2 o x y) fun v => some (v, ρ2)
  | .neg a, ρ => bz (ev c a ρ) fun x ρ1 => (match x with | .int i => some (.val (.int (-i)), ρ1) | _ => none)
  | .not a, ρ => bt (ev c a ρ) fun t ρ1 => some (.val (.bool (!t)), ρ1)
  | .and a b, ρ => bt (ev c a ρ) fun t ρ1 => if t = true then ev c b ρ1 else some (.val (.bool false), ρ1)
  | .or a b, ρ => bt (ev c a ρ) fun t ρ1 => if t = true then some (.val (.bool true), ρ1) else ev c b ρ1
  | .ife k a b, ρ => bt (ev c k ρ) fun t ρ1 => if t = true then ev c a ρ1 else ev c b ρ1
  | .isn a, ρ => bz (ev c a ρ) fun x ρ1 => some (.val (.bool (isNon x)), ρ1)
  | .isnt a, ρ => bz (ev c a ρ) fun x ρ1 => some (.val (.bool (!isNon x)), ρ1)
  | .cmp o a b, ρ => bz (ev c a ρ) fun x ρ1 => bd (rdr ρ1 b (ev c b ρ1)) fun y ρ2 => ob (cmp2 o x y) fun t => some (.val (.bool t), ρ2)
  | .chain o p a b d, ρ => bz (ev c a ρ) fun x ρ1 => bz (ev c b ρ1) fun y ρ2 => ob (cmp2 o x y) fun t =>
      if t = true then bz (ev c d ρ2) fun z ρ3 => ob (cmp2 p y z) fun t2 => some (.val (.bool t2), ρ3) else some (.val (.bool false), ρ2)
  | .tup es, ρ => bd (evs c es ρ) fun ds ρ1 => if okL ds.length then some (.val (.tuple ds), ρ1) else none
  | .lst es, ρ => bd (evs c es ρ) fun ds ρ1 => if okL ds.length then some (.own ds, ρ1) else none
  | .idx a i, ρ => (match isVar a with
    | some j => ob (slotD ρ j) fun _ => bz (ev c i ρ) fun y ρ1 => ob (slotD ρ1 j) fun x => ob (idx2 x y) fun d => some (.val d, ρ1)
    | none => bz (ev c a ρ) fun x ρ1 => bz (ev c i ρ1) fun y ρ2 => ob (idx2 x y) fun d => some (.val d, ρ2))
  | .slice a lo hi, ρ => (match isVar a with
    | some j => ob (slotD ρ j) fun _ => bd (prt ρ lo (ev c lo ρ)) fun l ρ2 => bd (prt ρ2 hi (ev c hi ρ2)) fun h ρ3 => ob (slotD ρ3 j) fun x => ob (slice3 l h x) fun v => some (v, ρ3)
    | none => bz (ev c a ρ) fun x ρ1 => bd (prt ρ1 lo (ev c lo ρ1)) fun l ρ2 => bd (prt ρ2 hi (ev c hi ρ2)) fun h ρ3 => ob (slice3 l h x) fun v => some (v, ρ3))
  | .rev a, ρ => bd (rdr ρ a (ev c a ρ)) fun x ρ1 => (match x with | .list ds => some (.own ds.reverse, ρ1) | .tuple ds => some (.val (.tuple ds.reverse), ρ1) | _ => none)
  | .comp el it t cond vs, ρ => bd (evi c it ρ) fun xs ρ1 =>
      bd (compL (fun x ρ2 => ob (bindT t x ρ2) fun ρ3 => bd (cnd ρ3 cond (ev c cond ρ3)) fun k ρ4 => if k = true then bz (ev c el ρ4) fun y ρ5 => some ([y], wipe ρ5 vs) else some ([], wipe ρ4 vs)) xs (wipe ρ1 vs)) fun ys ρ6 =>
        if okL ys.length then some (.own ys, back ρ1 ρ6 vs) else none
  | .call f es, ρ => bd (evs c es ρ) fun ds ρ1 => ob (c f none ds) fun p => some (p.1, ρ1)
  | .cmn j, ρ => ob (slotD ρ j) fun x => ob (cmp2 .ne x (.list [])) fun t => some (.val (.bool t), ρ)
  | .pop j, ρ => ob (slotL ρ j) fun ds => ob ds.getLast? fun d => ob (putL ρ j ds.dropLast) fun ρ2 => some (.val d, ρ2)
  | .ln f j, ρ => (match rd ρ j with
    | .own ds => ob (c f none [.list ds]) fun p => (match p.1 with
      | .val (.int n) => some (.val (.int n), ρ)
      | _ => none)
    | _ => none)
  | .callr f r es, ρ => if isOb f = true then ob (slotO ρ r) fun _ => bd (evs c es ρ) fun ds ρ1 => ob (slotO ρ1 r) fun fs => ob (c f (some (encO fs)) ds) fun p => ob (decO p.2) fun q => some (p.1, ρ1.set r (.obj q))
    else if isDl f = true then ob (slotV ρ r) fun _ => bd (evs c es ρ) fun ds ρ1 => ob (slotV ρ1 r) fun q => ob (c f (some (encK q.2)) ds) fun p => ob (decK p.2) fun kvs => some (p.1, ρ1.set r (mkV q.1 kvs)) else ob (slotL ρ r) fun _ => bd (evs c es ρ) fun ds ρ1 => ob (slotL ρ1 r) fun row => ob (c f (some row) ds) fun p => ob (putL ρ1 r p.2) fun ρ2 => some (p.1, ρ2)
  | .isi a t, ρ => bz (ev c a ρ) fun x ρ1 => ob (isiT x t) fun k => some (.val (.bool k), ρ1)
  | .isi2 a t u, ρ => bz (ev c a ρ) fun x ρ1 => ob (isiT x t) fun k => ob (isiT x u) fun l => some (.val (.bool (k || l)), ρ1)
  | .blt1 f a, ρ => bd (rdr ρ a (ev c a ρ)) fun x ρ1 => ob (blt1 f x) fun v => some (v, ρ1)
  | .blt2 f a b, ρ => bz (ev c a ρ) fun x ρ1 => bz (ev c b ρ1) fun y ρ2 => ob (blt2 f x y) fun v => some (.val v, ρ2)
  | .lrng it, ρ => bd (evi c it ρ) fun ds ρ1 => if okL ds.length then some (.own ds, ρ1) else none
  | .trg it, ρ => bd (evi c it ρ) fun ds ρ1 => if okL ds.length then some (.val (.tuple ds), ρ1) else none
  | .meth m o a, ρ => (match isVar o with
    | some j => ob (slotD ρ j) fun x0 => bz (ev c a ρ) fun y ρ1 => ob (slotD ρ1 j) fun x => if kndD x0 = kndD x then ob (methD m x y) fun v => some (.val v, ρ1) else none
    | none => bz (ev c o ρ) fun x ρ1 => bz (ev c a ρ1) fun y ρ2 => ob (methD m x y) fun v => some (.val v, ρ2))
  | .fz js e, ρ => ev c e (thawR ρ js)
  | .dx o j a b, ρ => (match o with
    | .new => some (.dct false [], ρ)
    | .isin => bz (ev c a ρ) fun y ρ1 => ob (keyD y) fun k => ob (slotK ρ1 j) fun kvs => some (.val (.bool (valD kvs k).isSome), ρ1)
    | .nin => bz (ev c a ρ) fun y ρ1 => ob (keyD y) fun k => ob (slotK ρ1 j) fun kvs => some (.val (.bool (!(valD kvs k).isSome)), ρ1)
    | .get => ob (slotK ρ j) fun _ => bz (ev c a ρ) fun y ρ1 => ob (keyD y) fun k => ob (slotK ρ1 j) fun kvs => ob (valD kvs k) fun d => some (.val d, ρ1)
    | .getd => ob (slotK ρ j) fun _ => bz (ev c a ρ) fun y ρ1 => bz (ev c b ρ1) fun z ρ2 => ob (keyD y) fun k => ob (slotK ρ2 j) fun kvs => some (.val ((valD kvs k).getD z), ρ2)
    | .len => ob (slotU ρ j) fun kvs => some (.val (.int (kvs.length : Nat)), ρ)
    | .skeys => ob (slotU ρ j) fun kvs => if okSrt (keysD kvs) then some (.own (srtD (keysD kvs)), ρ) else none
    | .keys => none)
  | .xt o j a b, ρ => evx o j (fun ρ => ev c a ρ) (fun ρ => ev c b ρ) ρ
  | .comp2 el it t cond vs it2 t2 cond2 vs2, ρ => bd (evi c it ρ) fun xs ρ1 =>
      bd (compL (fun x ρ2 => ob (bindT t x ρ2) fun ρ3 => bd (cnd ρ3 cond (ev c cond ρ3)) fun k ρ4 => if k = true then
          bd (evi c it2 ρ4) fun xs2 ρ5 =>
            bd (compL (fun x ρ6 => ob (bindT t2 x ρ6) fun ρ7 => bd (cnd ρ7 cond2 (ev c cond2 ρ7)) fun k ρ8 => if k = true then bz (ev c el ρ8) fun y ρ9 => some ([y], wipe ρ9 vs2) else some ([], wipe ρ8 vs2)) xs2 (wipe ρ5 vs2)) fun ys ρ9 => some (ys, wipe ρ9 vs)
          else some ([], wipe ρ4 vs)) xs (wipe ρ1 vs)) fun ys ρ6 =>
        if okL ys.length then some (.own ys, back ρ1 ρ6 vs) else none
  | _, _ => none
def evs (c : FT) : E → Rho → Option (List D × Rho)
  | .nil, ρ => some ([], ρ)
  | .cons e es, ρ => bz (ev c e ρ) fun d ρ1 => bd (evs c es ρ1) fun ds ρ2 => some (d :: ds, ρ2)
  | _, _ => none
def evi (c : FT) : E → Rho → Option (List D × Rho)
  | .seq e, ρ => bz (ev c e ρ) fun x ρ1 => ob (seqD x) fun ds => some (ds, ρ1)
  | .rng1 a, ρ => bz (ev c a ρ) fun x ρ1 => (match x with | .int n => if rngOk n then some (rngD 0 n, ρ1) else none | _ => none)
  | .rng2 a b, ρ => bz (ev c a ρ) fun x ρ1 => bz (ev c b ρ1) fun y ρ2 => (match x, y with | .int n, .int m => if rngOk n && rngOk m then some (rngD n m, ρ2) else none | _, _ => none)
  | .kys a, ρ => (match ev c a ρ with
    | some (.dct false kvs, ρ1) => some (keysD kvs, ρ1)
    | _ => none)
  | .dx .keys j _ _, ρ => ob (slotF ρ j) fun kvs => some (keysD kvs, ρ.set j (.dct true kvs))
  | .enum e, ρ => bz (ev c e ρ) fun x ρ1 => ob (seqD x) fun ds => some (enumD 0 ds, ρ1)
  | .zip a b, ρ => bz (ev c a ρ) fun x ρ1 => ob (seqD x) fun ds => bz (ev c b ρ1) fun y ρ2 => ob (seqD y) fun es => some (zipD ds es, ρ2)
  | _, _ => none
end
def inT (c : FT) (t2 : Tg) (cond2 el : E) (vs2 : List Nat) : D → Rho → Option (List D × Rho) := fun x ρ6 => ob (bindT t2 x ρ6) fun ρ7 => bd (cnd ρ7 cond2 (ev c cond2 ρ7)) fun k ρ8 => if k = true then bz (ev c el ρ8) fun y ρ9 => some ([y], wipe ρ9 vs2) else some ([], wipe ρ8 vs2)
def outT (c : FT) (t : Tg) (cond : E) (vs : List Nat) (it2 : E) (t2 : Tg) (cond2 el : E) (vs2 : List Nat) : D → Rho → Option (List D × Rho) := fun x ρ2 => ob (bindT t x ρ2) fun ρ3 => bd (cnd ρ3 cond (ev c cond ρ3)) fun k ρ4 => if k = true then
          bd (evi c it2 ρ4) fun xs2 ρ5 => bd (compL (inT c t2 cond2 el vs2) xs2 (wipe ρ5 vs2)) fun ys ρ9 => some (ys, wipe ρ9 vs)
          else some ([], wipe ρ4 vs)
/-- several values, each as it comes -/
def evm (c : FT) : E → Rho → Option (List SV × Rho)
  | .nil, ρ => some ([], ρ)
  | .cons e es, ρ => bd (ev c e ρ) fun v ρ1 => bd (evm c es ρ1) fun vs ρ2 => some (v :: vs, ρ2)
  | _, _ => none
/-- what is returned: a list that a name holds goes with it -/
def evo (c : FT) (e : E) (ρ : Rho) : Option (SV × Rho) := match isVar e with
  | some i => (match rd ρ i with
    | .own ds => some (.own ds, ρ.set i .un)
    | .dct false kvs => some (.dct false kvs, ρ.set i .un)
    | _ => ev c e ρ)
  | none => ev c e ρ
def forL (f : D → Rho → Option (Out × Rho)) : List D → Rho → Option (Out × Rho)
  | [], ρ => some (.nx, ρ)
  | x :: xs, ρ => match f x ρ with
    | none => none
    | some (.rt v, ρ1) => some (.rt v, ρ1)
    | some (.bk, ρ1) => some (.nx, ρ1)
    | some (_, ρ1) => forL f xs ρ1
def whileL (t : Rho → Option (Bool × Rho)) (f : Rho → Option (Out × Rho)) : Nat → Rho → Option (Out × Rho)
  | 0, _ => none
  | n + 1, ρ => match t ρ with
    | none => none
    | some (false, ρ1) => some (.nx, ρ1)
    | some (true, ρ1) => match f ρ1 with
      | none => none
      | some (.rt v, ρ2) => some (.rt v, ρ2)
      | some (.bk, ρ2) => some (.nx, ρ2)
      | some (_, ρ2) => whileL t f n ρ2
/-- the turns that a while may take -/
def fuel : Nat := 1000000000
def augO (o : Op2) (x y : D) : Option D := match op2 o x y with
  | some (.val d) => some d
  | _ => none
def isI : D → Bool
  | .int _ => true
  | _ => false
/-- turns over numbers of defs -/
def forN (g : Nat → Rho → Option (Out × Rho)) : List Nat → Rho → Option (Out × Rho)
  | [], ρ => some (.nx, ρ)
  | x :: xs, ρ => match g x ρ with
    | none => none
    | some (.rt v, ρ1) => some (.rt v, ρ1)
    | some (.bk, ρ1) => some (.nx, ρ1)
    | some (_, ρ1) => forN g xs ρ1
def cmpE (f a b : Nat) : E := .cmp .ne (.call f (.cons (.var a) .nil)) (.call f (.cons (.var b) .nil))
def ex (c : FT) : S → Rho → Option (Out × Rho)
  | .skip, ρ => some (.nx, ρ)
  | .seq a b, ρ => (match ex c a ρ with
    | some (.nx, ρ1) => ex c b ρ1
    | r => r)
  | .set i e, ρ => bd (ev c e ρ) fun v ρ1 => ob (put ρ1 i v) fun ρ2 => some (.nx, ρ2)
  | .par is es, ρ => bd (evm c es ρ) fun vs ρ1 => ob (puts ρ1 is vs) fun ρ2 => some (.nx, ρ2)
  | .unp is e, ρ => bz (ev c e ρ) fun d ρ1 => ob (bindT (.many is) d ρ1) fun ρ2 => some (.nx, ρ2)
  | .seti j ix e, ρ => bz (ev c e ρ) fun d ρ1 => ob (slotL ρ1 j) fun _ => bz (ev c ix ρ1) fun y ρ2 => ob (slotL ρ2 j) fun ds =>
      (match y with | .int k => ob (L2.ixN ds.length k) fun n => ob (putL ρ2 j (ds.set n d)) fun ρ3 => some (.nx, ρ3) | _ => none)
  | .augi j ix o e, ρ => ob (slotL ρ j) fun _ => bz (ev c ix ρ) fun y ρ1 => ob (slotL ρ1 j) fun ds => (match y with
      | .int k => ob (ixD ds k) fun x => bz (ev c e ρ1) fun z ρ2 => ob (slotL ρ2 j) fun ds2 => if isI x && isI z then ob (augO o x z) fun w => ob (L2.ixN ds2.length k) fun n => ob (putL ρ2 j (ds2.set n w)) fun ρ3 => some (.nx, ρ3) else none
      | _ => none)
  | .aug i o e, ρ => ob (slotD ρ i) fun x => bz (ev c e ρ) fun z ρ1 => if isI x && isI z then ob (augO o x z) fun w => ob (put ρ1 i (.val w)) fun ρ2 => some (.nx, ρ2) else none
  | .app j e, ρ => ob (slotL ρ j) fun _ => bz (ev c e ρ) fun d ρ1 => ob (slotL ρ1 j) fun ds => if okL ds.length then ob (putL ρ1 j (ds ++ [d])) fun ρ2 => some (.nx, ρ2) else none
  | .dput j k e, ρ => bz (ev c e ρ) fun d ρ1 => ob (slotV ρ1 j) fun _ => bz (ev c k ρ1) fun y ρ2 => ob (keyD y) fun ks => ob (slotV ρ2 j) fun q =>
      if okL q.2.length then some (.nx, ρ2.set j (mkV q.1 (putD q.2 ks d))) else none
  | .dkp j k e, ρ => bz (ev c e ρ) fun d ρ1 => ob (slotC ρ1 j) fun _ => bz (ev c k ρ1) fun y ρ2 => ob (kD y) fun ks => ob (slotC ρ2 j) fun kvs =>
      if okL kvs.length then some (.nx, ρ2.set j (.dk (pK kvs ks d))) else none
  | .mnew j lo mx v ia ib, ρ => if decide (ia = v) then none else ob (slotI ρ ia) fun a => ob (slotI ρ ib) fun b => ob (newG ρ j lo mx v a b) fun ρ1 => ob (put ρ1 j (.oll lo b.toNat)) fun ρ2 => some (.nx, ρ2)
  | .mset j a b e, ρ => bz (ev c e ρ) fun d ρ1 => ob (slotM ρ1 j) fun _ => bz (ev c a ρ1) fun x ρ2 => (match x with
    | .int k => ob (slotM ρ2 j) fun q => ob (L2.ixN q.2 k) fun i => ob (slotG ρ2 (q.1 + i)) fun _ => bz (ev c b ρ2) fun y ρ3 => (match y with
      | .int m => ob (slotG ρ3 (q.1 + i)) fun ds => ob (L2.ixN ds.length m) fun l => some (.nx, ρ3.set (q.1 + i) (.gho (ds.set l d)))
      | _ => none)
    | _ => none)
  | .maug j a b o e, ρ => ob (slotM ρ j) fun _ => bz (ev c a ρ) fun x ρ1 => (match x with
    | .int k => ob (slotM ρ1 j) fun q => ob (L2.ixN q.2 k) fun i => ob (slotG ρ1 (q.1 + i)) fun _ => bz (ev c b ρ1) fun y ρ2 => (match y with
      | .int m => ob (slotG ρ2 (q.1 + i)) fun ds => ob (ixD ds m) fun u => bz (ev c e ρ2) fun z ρ3 => ob (slotG ρ3 (q.1 + i)) fun ds2 => if isI u && isI z then ob (augO o u z) fun w => ob (L2.ixN ds2.length m) fun l => some (.nx, ρ3.set (q.1 + i) (.gho (ds2.set l w))) else none
      | _ => none)
    | _ => none)
  | .parm i1 e1 i2 e2 j lo mx v ia ib, ρ => if decide (ia = v) then none else bd (ev c e1 ρ) fun w1 ρ1 => bd (ev c e2 ρ1) fun w2 ρ2 => ob (slotI ρ2 ia) fun a => ob (slotI ρ2 ib) fun b => ob (newG ρ2 j lo mx v a b) fun ρ3 =>
      if decide (i1 < lo) && decide (i2 < lo) then ob (put ρ3 i1 w1) fun ρ4 => ob (put ρ4 i2 w2) fun ρ5 => ob (put ρ5 j (.oll lo b.toNat)) fun ρ6 => some (.nx, ρ6) else none
  | .fneq fs i a b r, ρ => forN (fun f ρ => match ρ[i]? with
    | some .un => bt (ev c (cmpE f a b) ρ) fun t ρ1 => if t = true then ex c r ρ1 else some (.nx, ρ1)
    | _ => none) fs ρ
  | .fset j f e, ρ => bz (ev c e ρ) fun d ρ1 => ob (slotO ρ1 j) fun fs => if fs.length < 100 then some (.nx, ρ1.set j (.obj (putO f d fs))) else none
  | .faug j f o e, ρ => ob (slotO ρ j) fun fs => ob (fs.lookup f) fun x => bz (ev c e ρ) fun z ρ1 => ob (slotO ρ1 j) fun fs1 => if fs1.length < 100 then (match x, z with
    | .int m, .int n => some (.nx, ρ1.set j (.obj (putO f (.int (m + n)) fs1)))
    | _, _ => none) else none
  | .mko j f e, ρ => bz (ev c e ρ) fun d ρ1 => (match ρ1[j]? with
    | some .un => ob (c f (some (encO [])) [d]) fun p => ob (decO p.2) fun q => (match p.1 with
      | .val .none => some (.nx, ρ1.set j (.obj q))
      | _ => none)
    | _ => none)
  | .trn s, ρ => ex c s ρ
  | .mov i j, ρ => ob (slotU ρ j) fun kvs => if i = j then none else ob (put (ρ.set j .un) i (.dct false kvs)) fun ρ2 => some (.nx, ρ2)
  | .fz js s, ρ => ex c s (thawR ρ js)
  | .expr e, ρ => bd (ev c e ρ) fun _ ρ1 => some (.nx, ρ1)
  | .for_ t it b, ρ => bd (evi c it ρ) fun xs ρ1 => forL (fun x ρ2 => ob (bindT t x ρ2) fun ρ3 => ex c b ρ3) xs ρ1
  | .while_ k b, ρ => whileL (fun ρ1 => bt (ev c k ρ1) fun t ρ2 => some (t, ρ2)) (fun ρ1 => ex c b ρ1) fuel ρ
  | .ite k a b, ρ => bt (ev c k ρ) fun t ρ1 => if t = true then ex c a ρ1 else ex c b ρ1
  | .ret e, ρ => bd (evo c e ρ) fun v ρ1 => some (.rt v, ρ1)
  | .retn, ρ => some (.rt (.val .none), ρ)
  | .pass, ρ => some (.nx, ρ)
  | .brk, ρ => some (.bk, ρ)
  | .cont, ρ => some (.ct, ρ)
  | .never, _ => none

/-! ### a table of defs -/
structure Fn where
  np : Nat
  io : Bool
  nl : Nat
  body : S
  dl : Bool
def start (fn : Fn) (row : Option (List D)) (ds : List D) : Option Rho := match row with
  | some r => if fn.io && decide (ds.length + 1 = fn.np) then some (.row r :: (ds.map .val ++ List.replicate (fn.nl - fn.np) .un)) else none
  | none => if !fn.io && decide (ds.length = fn.np) then some (ds.map .val ++ List.replicate (fn.nl - fn.np) .un) else none
def outV : Out → Option SV
  | .rt v => some v
  | .nx => some (.val .none)
  | _ => none
def endR (io : Bool) (ρ : Rho) : Option (List D) := if io then (match rd ρ 0 with | .row r => some r | _ => none) else some []
def runB (c : FT) (fn : Fn) (row : Option (List D)) (ds : List D) : Option (SV × List D) :=
  ob (start fn row ds) fun ρ => bd (ex c fn.body ρ) fun o ρ1 => ob (outV o) fun v => ob (endR fn.io ρ1) fun r => some (v, r)
/-- a def whose last argument is a dict that is lent to it -/
def startD (fn : Fn) (r ds : List D) : Option Rho := if ds.length + 1 = fn.np then ob (decK r) fun kvs => some (ds.map .val ++ (.rdc kvs :: List.replicate (fn.nl - fn.np) .un)) else none
def endD (n : Nat) (ρ : Rho) : Option (List D) := match rd ρ n with
  | .rdc kvs => some (encK kvs)
  | _ => none
def startO (fn : Fn) (r ds : List D) : Option Rho := if ds.length + 1 = fn.np then ob (decO r) fun q => some (.obj q :: (ds.map .val ++ List.replicate (fn.nl - fn.np) .un)) else none
def endO (ρ : Rho) : Option (List D) := match rd ρ 0 with
  | .obj fs => some (encO fs)
  | _ => none
def runO (c : FT) (fn : Fn) (row : Option (List D)) (ds : List D) : Option (SV × List D) := ob row fun r =>
  ob (startO fn r ds) fun ρ => bd (ex c fn.body ρ) fun o ρ1 => ob (outV o) fun v => ob (endO ρ1) fun r => some (v, r)
def runD (c : FT) (fn : Fn) (row : Option (List D)) (ds : List D) : Option (SV × List D) := ob row fun r =>
  ob (startD fn r ds) fun ρ => bd (ex c fn.body ρ) fun o ρ1 => ob (outV o) fun v => ob (endD ds.length ρ1) fun r => some (v, r)
def run (T : Nat → Option Fn) : Nat → FT
  | 0, _, _, _ => none
  | k + 1, f, row, ds => ob (T f) fun fn => if fn.dl = true then (if isOb f = true then runO (run T k) fn row ds else runD (run T k) fn row ds) else runB (run T k) fn row ds
end DP

/-! data in the heap: what is frozen (G), what a name alone holds -/
namespace DP
abbrev St := L2.St
open PySem PySem.Spec PyProof.Rows L2

/-- a tuple that is known to the object, without a dict -/
def TF (H : Hp) (a : Addr) (xs : List V) : Prop := ∃ o : Obj, H a = some (.frz o (.tup xs)) ∧ o.dict = none
theorem TF.mono {H H' : Hp} (s : Same H H') {a : Addr} {xs : List V} (h : TF H a xs) : TF H' a xs := let ⟨o, h1, h2⟩ := h; ⟨o, s _ _ h1, h2⟩
theorem TF.sq {K : PySem.W.Frag} {H : Hp} {a : Addr} {xs : List V} (h : TF H a xs) : SqT K H a xs := let ⟨o, h1, _⟩ := h; .inl (.inr ⟨o, h1⟩)
mutual
inductive Dr (G : Hp) : V → D → Prop
  | non : Dr G .non .none
  | bl (b : Bool) : Dr G (.bl b) (.bool b)
  | int (i : Int) : Dr G (.int i) (.int i)
  | str (x : Str) : Dr G (.str x) (.str x)
  | lst {a : Addr} {xs : List V} {ds : List D} : G a = some (.lst xs) → Drs G xs ds → Dr G (.ref a) (.list ds)
  | tup {a : Addr} {xs : List V} {ds : List D} : TF G a xs → Drs G xs ds → Dr G (.ref a) (.tuple ds)
  | pr {a : Addr} {xs : List V} {ds : List D} : G a = some (.tup xs) → Drs G xs ds → Dr G (.ref a) (prD ds)
  | scr {a : Addr} {o : Obj} (ns : List Int) : G a = some (.frz o (.lst (ns.map V.int))) → Dr G (.ref a) (scrD ns)
  | dc0 {a : Addr} : G a = some (.dT []) → Dr G (.ref a) (.dict [])
inductive Drs (G : Hp) : List V → List D → Prop
  | nil : Drs G [] []
  | cons {v : V} {vs : List V} {d : D} {ds : List D} : Dr G v d → Drs G vs ds → Drs G (v :: vs) (d :: ds)
end

mutual
theorem Dr.mono {G G' : Hp} (s : Same G G') : ∀ {d : D} {v : V}, Dr G v d → Dr G' v d
  | _, _, .non => .non
  | _, _, .bl b => .bl b
  | _, _, .int i => .int i
  | _, _, .str x => .str x
  | _, _, .lst h r => .lst (s _ _ h) (Drs.mono s r)
  | _, _, .tup h r => .tup (h.mono s) (Drs.mono s r)
  | _, _, .pr h r => .pr (s _ _ h) (Drs.mono s r)
  | _, _, .scr ns h => .scr ns (s _ _ h)
  | _, _, .dc0 h => .dc0 (s _ _ h)
theorem Drs.mono {G G' : Hp} (s : Same G G') : ∀ {ds : List D} {vs : List V}, Drs G vs ds → Drs G' vs ds
  | _, _, .nil => .nil
  | _, _, .cons h r => .cons (Dr.mono s h) (Drs.mono s r)
end
theorem Drs.length {G : Hp} : ∀ {vs : List V} {ds : List D}, Drs G vs ds → vs.length = ds.length
  | _, _, .nil => rfl
  | _, _, .cons _ r => by rw [List.length_cons, List.length_cons, Drs.length r]
theorem Drs.get {G : Hp} : ∀ {vs : List V} {ds : List D} {i : Nat} {v : V}, Drs G vs ds → vs[i]? = some v → ∃ d, ds[i]? = some d ∧ Dr G v d
  | _, _, _, _, .nil, e => by simp at e
  | _, _, 0, _, .cons h _, e => by simp at e; subst e; exact ⟨_, rfl, h⟩
  | _, _, i + 1, _, .cons _ r, e => by
    obtain ⟨d, h1, h2⟩ := Drs.get (i := i) r (by simpa using e)
    exact ⟨d, by simpa using h1, h2⟩
theorem Drs.getD {G : Hp} : ∀ {vs : List V} {ds : List D} {i : Nat} {d : D}, Drs G vs ds → ds[i]? = some d → ∃ v, vs[i]? = some v ∧ Dr G v d
  | _, _, _, _, .nil, e => by simp at e
  | _, _, 0, _, .cons h _, e => by simp at e; subst e; exact ⟨_, rfl, h⟩
  | _, _, i + 1, _, .cons _ r, e => by
    obtain ⟨d, h1, h2⟩ := Drs.getD (i := i) r (by simpa using e)
    exact ⟨d, by simpa using h1, h2⟩
theorem Drs.append {G : Hp} : ∀ {xs ys : List V} {ds es : List D}, Drs G xs ds → Drs G ys es → Drs G (xs ++ ys) (ds ++ es)
  | _, _, _, _, .nil, s => s
  | _, _, _, _, .cons h r, s => .cons h (Drs.append r s)
theorem Drs.take {G : Hp} : ∀ {xs : List V} {ds : List D} (n : Nat), Drs G xs ds → Drs G (xs.take n) (ds.take n)
  | _, _, 0, _ => .nil
  | _, _, _ + 1, .nil => .nil
  | _, _, n + 1, .cons h r => .cons h (Drs.take n r)
theorem Drs.drop {G : Hp} : ∀ {xs : List V} {ds : List D} (n : Nat), Drs G xs ds → Drs G (xs.drop n) (ds.drop n)
  | _, _, 0, r => r
  | _, _, _ + 1, .nil => .nil
  | _, _, n + 1, .cons _ r => Drs.drop n r
theorem Drs.rev {G : Hp} : ∀ {xs : List V} {ds : List D}, Drs G xs ds → Drs G xs.reverse ds.reverse
  | _, _, .nil => .nil
  | _, _, .cons h r => by rw [List.reverse_cons, List.reverse_cons]; exact Drs.append (Drs.rev r) (.cons h .nil)
theorem Drs.set {G : Hp} {v : V} {d : D} (h : Dr G v d) : ∀ {xs : List V} {ds : List D} (n : Nat), Drs G xs ds → Drs G (xs.set n v) (ds.set n d)
  | _, _, _, .nil => .nil
  | _, _, 0, .cons _ r => .cons h r
  | _, _, n + 1, .cons q r => .cons q (Drs.set h n r)
theorem Drs.rep {G : Hp} {xs : List V} {ds : List D} (h : Drs G xs ds) : ∀ k : Nat, Drs G (List.replicate k xs).flatten (repD ds k)
  | 0 => .nil
  | k + 1 => by
    unfold repD
    rw [List.replicate_succ, List.replicate_succ, List.flatten_cons, List.flatten_cons]
    exact Drs.append h (Drs.rep h k)
theorem Drs.ints {G : Hp} : ∀ (ns : List Int), Drs G (ns.map V.int) (ns.map .int)
  | [] => .nil
  | n :: r => .cons (.int n) (Drs.ints r)
theorem Drs.ints_of {G : Hp} : ∀ {ds : List D} {xs : List V} {ns : List Int}, Drs G xs ds → intsD ds = some ns → xs = ns.map V.int ∧ ds = ns.map .int
  | _, _, _, .nil, e => by cases e; exact ⟨rfl, rfl⟩
  | d :: ds, _, ns, .cons h r, e => by
    cases h with
    | int i =>
      unfold intsD at e
      cases q : intsD ds with
      | none => rw [q] at e; cases e
      | some ms =>
        rw [q] at e
        cases e
        obtain ⟨e1, e2⟩ := Drs.ints_of r q
        subst e1 e2
        exact ⟨rfl, rfl⟩
    | non => cases e
    | bl b => cases e
    | str x => cases e
    | lst _ _ => cases e
    | tup _ _ => cases e
    | pr _ _ => cases e
    | scr _ _ => cases e
    | dc0 _ => cases e
mutual
theorem Dr.dp {K : PySem.W.Frag} {G H : Hp} (s : Same G H) : ∀ {d : D} {v : V}, Dr G v d → d.canLay0 = true → Dp K H v d
  | _, _, .non, _ => .non
  | _, _, .bl b, _ => .bl b
  | _, _, .int i, _ => .int i
  | _, _, .str x, _ => .str x
  | .list ds, _, .lst h r, e => .lst (SqL.of (s _ _ h)) (Drs.dp s r (by simpa [PyData.canLay0] using e))
  | .tuple ds, _, .tup h r, e => .tup (h.mono s).sq (Drs.dp s r (by simpa [PyData.canLay0] using e))
  | _, _, .scr ns h, e => by simp [scrD, PyData.canLay0] at e
  | _, _, .pr h r, e => by simp [prD, PyData.canLay0] at e
  | _, _, .dc0 h, e => by simp [PyData.canLay0] at e
theorem Drs.dp {K : PySem.W.Frag} {G H : Hp} (s : Same G H) : ∀ {ds : List D} {vs : List V}, Drs G vs ds → PyData.canLayAll0 ds = true → DpAll K H vs ds
  | _, _, .nil, _ => .nil
  | d :: ds, _, .cons h r, e => by
    have e' : d.canLay0 = true ∧ PyData.canLayAll0 ds = true := by simpa [PyData.canLayAll0] using e
    exact .cons (Dr.dp s h e'.1) (Drs.dp s r e'.2)
end

/-! ### dicts with tuples of ints as keys -/
/-- the hash of a tuple of ints -/
def hI (k : List Int) : Int := reduceHash (Builtin.Tuple.tupleHashOf (k.map hashInt))
/-- a dict's entries: the key, where its tuple stands, the value -/
abbrev Ens := List (List Int × Addr × Value)
def ent (x : List Int × Addr × Value) : DictEntry := ⟨hI x.1, .ref x.2.1, x.2.2⟩
theorem ent_is {P : Program} {w : World} (xs : Ens) : xs.map ent = xs.map (entryOfKey (tupleKind (PySem.intKind P w))) := rfl
def DR (h : Heap) (a : Addr) (xs : Ens) : Prop := xs.length ≤ sizeLine ∧ (a == sysModules) = false ∧ ∃ o es ep, h.get? a = some o ∧ o.ExactDict ∧ o.data = .dict es ep ∧ es.toList = xs.map ent ∧ (xs.map (·.1)).Nodup
theorem DR.at {h h' : Heap} {a : Addr} {xs : Ens} (x : DR h a xs) (k : ∀ o, h.get? a = some o → h'.get? a = some o) : DR h' a xs := let ⟨z, y, o, es, ep, e, r⟩ := x; ⟨z, y, o, es, ep, k o e, r⟩
/-- a dict with tuples of ints as keys -/
def DO (a : Addr) (xs : Ens) : HO := .ext fun h => DR h a xs
theorem DO_ok {P : Program} {w : World} {H : Hp} {h : Heap} {a : Addr} {xs : Ens} (x : DR h a xs) : ObjOk P w H h a (DO a xs) :=
  ⟨x, let ⟨_, _, o, _, _, e, _⟩ := x; ⟨o, e⟩, fun _ _ x k => x.at k⟩
theorem DO_rd {P : Program} {w : World} {H : Hp} {h : Heap} {a : Addr} {xs : Ens} (ok : HOk P w H h) (r : Rd H a (DO a xs)) : DR h a xs := (r.ok ok).1
inductive KvR (G : Hp) : Ens → List (List Int × D) → Prop
  | nil : KvR G [] []
  | cons (k : List Int) {b : Addr} {u : Value} {v : V} {d : D} {xs : Ens} {kvs : List (List Int × D)} : TF G b (k.map V.int) → RelV v u → Dr G v d → KvR G xs kvs → KvR G ((k, b, u) :: xs) ((k, d) :: kvs)
theorem KvR.mono {G G' : Hp} (s : Same G G') : ∀ {xs : Ens} {kvs : List (List Int × D)}, KvR G xs kvs → KvR G' xs kvs
  | _, _, .nil => .nil
  | _, _, .cons k t q h r => .cons k (t.mono s) q (h.mono s) (KvR.mono s r)
theorem KvR.length {G : Hp} : ∀ {xs : Ens} {kvs : List (List Int × D)}, KvR G xs kvs → xs.length = kvs.length
  | _, _, .nil => rfl
  | _, _, .cons _ _ _ _ r => by rw [List.length_cons, List.length_cons, KvR.length r]
theorem valD_pos {p : List Int × D} {r : List (List Int × D)} {k : List Int} (e : p.1 = k) : valD (p :: r) k = some p.2 := by simp [valD, List.find?_cons, e]
theorem valD_neg {p : List Int × D} {r : List (List Int × D)} {k : List Int} (e : ¬ p.1 = k) : valD (p :: r) k = valD r k := by simp [valD, List.find?_cons, e]
theorem at_pos {p : List Int × Addr × Value} {r : Ens} {k : List Int} (e : p.1 = k) : atKey (p :: r) k = some p.2 := by simp [atKey, List.find?_cons, e]
theorem at_neg {p : List Int × Addr × Value} {r : Ens} {k : List Int} (e : ¬ p.1 = k) : atKey (p :: r) k = atKey r k := by simp [atKey, List.find?_cons, e]
theorem KvR.val {G : Hp} (k : List Int) : ∀ {xs : Ens} {kvs : List (List Int × D)}, KvR G xs kvs → (atKey xs k = none ∧ valD kvs k = none) ∨ ∃ p v d, atKey xs k = some p ∧ RelV v p.2 ∧ valD kvs k = some d ∧ Dr G v d
  | _, _, .nil => .inl ⟨rfl, rfl⟩
  | _, _, .cons l t q h r => by
    by_cases e : l = k
    · exact .inr ⟨_, _, _, at_pos e, q, valD_pos e, h⟩
    · rw [at_neg e, valD_neg e]
      exact KvR.val k r
theorem KvR.some {G : Hp} {k : List Int} {xs : Ens} {kvs : List (List Int × D)} (r : KvR G xs kvs) : (atKey xs k).isSome = (valD kvs k).isSome := by
  rcases r.val k with ⟨a, b⟩ | ⟨p, v, d, a, _, b, _⟩ <;> rw [a, b] <;> rfl
theorem KvR.any {G : Hp} {k : List Int} : ∀ {xs : Ens} {kvs : List (List Int × D)}, KvR G xs kvs → (atKey xs k).isSome = kvs.any fun p => decide (p.1 = k)
  | _, _, .nil => rfl
  | _, _, .cons l t q h r => by
    rw [List.any_cons]
    by_cases e : l = k
    · rw [at_pos e]; simp [e]
    · rw [at_neg e, KvR.any r]; simp [e]
theorem KvR.repl {G : Hp} (k : List Int) {u : Value} {v : V} {d : D} (q : RelV v u) (h : Dr G v d) : ∀ {xs : Ens} {kvs : List (List Int × D)}, KvR G xs kvs →
    KvR G (xs.map (putAt k u)) (kvs.map fun p => if p.1 = k then (p.1, d) else p)
  | _, _, .nil => .nil
  | _, _, .cons l t q' h' r => by
    have r' := KvR.repl k q h r
    rw [List.map_cons, List.map_cons]
    unfold putAt at r' ⊢
    by_cases e : l = k
    · simp only [e, if_true]
      exact .cons k (e ▸ t) q h r'
    · simp only [if_neg e]
      exact .cons l t q' h' r'
theorem KvR.snoc {G : Hp} (k : List Int) {b : Addr} {u : Value} {v : V} {d : D} (t : TF G b (k.map V.int)) (q : RelV v u) (h : Dr G v d) : ∀ {xs : Ens} {kvs : List (List Int × D)}, KvR G xs kvs → KvR G (xs ++ [(k, b, u)]) (kvs ++ [(k, d)])
  | _, _, .nil => .cons k t q h .nil
  | _, _, .cons l t' q' h' r => .cons l t' q' h' (KvR.snoc k t q h r)
theorem KvR.put {G : Hp} {k : List Int} {b : Addr} {u : Value} {v : V} {d : D} (t : TF G b (k.map V.int)) (q : RelV v u) (h : Dr G v d) {xs : Ens} {kvs : List (List Int × D)} (r : KvR G xs kvs) : KvR G (storedH xs k b u) (putD kvs k d) := by
  unfold storedH putD
  rw [r.any]
  split
  · exact r.repl k q h
  · exact r.snoc k t q h
theorem tf_key {P : Program} {w : World} {H : Hp} {h : Heap} {b : Addr} {k : List Int} (ok : HOk P w H h) (t : TF H b (k.map V.int)) : (tupleKind (PySem.intKind P w)).is h k b := by
  obtain ⟨ob, h1, _⟩ := t
  obtain ⟨_, _, its, r, o, e1, e2, n, e3⟩ := (show ObjOk P w H h b (.frz ob (.tup (k.map V.int))) from ok b _ h1)
  refine ⟨o, its.toArray, n, e1, e2, e3, ?_⟩
  have go : ∀ (ks : List Int) (us : List Value), Vals (ks.map V.int) us → ItemsAre (PySem.intKind P w) ks us := by
    intro ks
    induction ks with
    | nil => intro us r; rw [List.map_nil] at r; cases r; exact .nil
    | cons i ks ih =>
      intro us r
      rw [List.map_cons] at r
      cases r with
      | cons a c =>
        obtain ⟨t, rfl⟩ := a
        exact .cons (by simp [PySem.intKind, Value.isInt]) (ih _ c)
  simpa using go k its r
theorem DR.of {P : Program} {w : World} {G H : Hp} {h : Heap} {a : Addr} {xs : Ens} {kvs : List (List Int × D)} (x : DR h a xs) (ok : HOk P w H h) (s : Same G H) (r : KvR G xs kvs) :
    h.DictOfH (tupleKind (PySem.intKind P w)) a xs := by
  obtain ⟨z, _, o, es, ep, e1, e2, e3, e4, e5⟩ := x
  refine ⟨o, es, ep, e1, e2, e3, e4, ?_, e5⟩
  clear e4 e5 z
  induction r with
  | nil => intro x hx; cases hx
  | cons k t _ _ _ ih =>
    intro x hx
    rcases List.mem_cons.mp hx with e | hx
    · subst e; exact tf_key ok (t.mono s)
    · exact ih x hx

/-! ### dicts with ints and texts as keys -/
inductive KdR (G : Hp) : List (L2.Key × V) → List (L2.Key × D) → Prop
  | nil : KdR G [] []
  | cons (k : L2.Key) {v : V} {d : D} {xs : List (L2.Key × V)} {kvs : List (L2.Key × D)} : Dr G v d → KdR G xs kvs → KdR G ((k, v) :: xs) ((k, d) :: kvs)
theorem KdR.mono {G G' : Hp} (s : Same G G') : ∀ {xs : List (L2.Key × V)} {kvs : List (L2.Key × D)}, KdR G xs kvs → KdR G' xs kvs
  | _, _, .nil => .nil
  | _, _, .cons k h r => .cons k (h.mono s) (KdR.mono s r)
theorem KdR.length {G : Hp} : ∀ {xs : List (L2.Key × V)} {kvs : List (L2.Key × D)}, KdR G xs kvs → xs.length = kvs.length
  | _, _, .nil => rfl
  | _, _, .cons _ _ r => by rw [List.length_cons, List.length_cons, KdR.length r]
theorem vK_pos {p : L2.Key × D} {r : List (L2.Key × D)} {k : L2.Key} (e : p.1 = k) : vK (p :: r) k = some p.2 := by simp [vK, List.find?_cons, e]
theorem vK_neg {p : L2.Key × D} {r : List (L2.Key × D)} {k : L2.Key} (e : ¬ p.1 = k) : vK (p :: r) k = vK r k := by simp [vK, List.find?_cons, e]
theorem KdR.val {G : Hp} (k : L2.Key) : ∀ {xs : List (L2.Key × V)} {kvs : List (L2.Key × D)}, KdR G xs kvs → (valV xs k = none ∧ vK kvs k = none) ∨ ∃ v d, valV xs k = some v ∧ vK kvs k = some d ∧ Dr G v d
  | _, _, .nil => .inl ⟨rfl, rfl⟩
  | _, _, .cons l (v := v) (d := d) (xs := xs) (kvs := kvs) h r => by
    by_cases e : l = k
    · exact .inr ⟨_, _, L2.valV_pos (p := (l, v)) e, vK_pos (p := (l, d)) e, h⟩
    · rw [L2.valV_neg (p := (l, v)) e, vK_neg (p := (l, d)) e]
      exact KdR.val k r
theorem KdR.any {G : Hp} {k : L2.Key} : ∀ {xs : List (L2.Key × V)} {kvs : List (L2.Key × D)}, KdR G xs kvs → (xs.any fun p => decide (p.1 = k)) = kvs.any fun p => decide (p.1 = k)
  | _, _, .nil => rfl
  | _, _, .cons l h r => by rw [List.any_cons, List.any_cons, KdR.any r]
theorem KdR.repl {G : Hp} (k : L2.Key) {v : V} {d : D} (h : Dr G v d) : ∀ {xs : List (L2.Key × V)} {kvs : List (L2.Key × D)}, KdR G xs kvs →
    KdR G (xs.map fun p => if p.1 = k then (p.1, v) else p) (kvs.map fun p => if p.1 = k then (p.1, d) else p)
  | _, _, .nil => .nil
  | _, _, .cons l (v := v') (d := d') (xs := xs) (kvs := kvs) h' r => by
    have r' := KdR.repl k h r
    rw [List.map_cons, List.map_cons]
    by_cases e : l = k
    · rw [if_pos e, if_pos e]; exact .cons l h r'
    · rw [if_neg e, if_neg e]; exact .cons l h' r'
theorem KdR.snoc {G : Hp} (k : L2.Key) {v : V} {d : D} (h : Dr G v d) : ∀ {xs : List (L2.Key × V)} {kvs : List (L2.Key × D)}, KdR G xs kvs → KdR G (xs ++ [(k, v)]) (kvs ++ [(k, d)])
  | _, _, .nil => .cons k h .nil
  | _, _, .cons l h' r => .cons l h' (KdR.snoc k h r)
theorem KdR.put {G : Hp} {k : L2.Key} {v : V} {d : D} (h : Dr G v d) {xs : List (L2.Key × V)} {kvs : List (L2.Key × D)} (r : KdR G xs kvs) : KdR G (putK xs k v) (pK kvs k d) := by
  unfold putK pK
  rw [r.any]
  split
  · exact r.repl k h
  · exact r.snoc k h

/-! ### slots -/
def hot : SV → Bool
  | .own _ => true
  | .row _ => true
  | .dk _ => true
  | .gho _ => true
  | .rdc _ => true
  | .obj _ => true
  | .dct lk _ => !lk
  | _ => false
/-- not a tuple: what may stay apart from the frozen part -/
def NT (o : HO) : Prop := ∀ xs, o ≠ .tup xs
theorem nt_lst {xs : List V} : NT (.lst xs) := fun _ z => nomatch z
theorem nt_dK {kvs : List (L2.Key × V)} : NT (.dK kvs) := fun _ z => nomatch z
theorem nt_ins {C dx : Addr} {fs : List (Str × V)} : NT (.ins C dx fs) := fun _ z => nomatch z
/-- fields -/
inductive FsR (G : Hp) : List (Str × V) → List (Str × D) → Prop
  | nil : FsR G [] []
  | cons {f : Str} {v : V} {d : D} {vs : List (Str × V)} {fs : List (Str × D)} : Dr G v d → FsR G vs fs → FsR G ((f, v) :: vs) ((f, d) :: fs)
theorem FsR.mono {G G' : Hp} (s : Same G G') : ∀ {vs : List (Str × V)} {fs : List (Str × D)}, FsR G vs fs → FsR G' vs fs
  | _, _, .nil => .nil
  | _, _, .cons h r => .cons (h.mono s) (r.mono s)
theorem FsR.look {G : Hp} {f : Str} : ∀ {vs : List (Str × V)} {fs : List (Str × D)} {d : D}, FsR G vs fs → fs.lookup f = some d → ∃ v, vs.lookup f = some v ∧ Dr G v d
  | _, _, _, .nil, e => by cases e
  | _, _, d, .cons (f := g) (v := v) (d := d') (vs := vs) (fs := fs) h r, e => by
    rw [List.lookup_cons] at e ⊢
    cases q : f == g with
    | true => rw [q] at e; cases e; exact ⟨v, rfl, h⟩
    | false => rw [q] at e; exact r.look e
theorem FsR.len {G : Hp} : ∀ {vs : List (Str × V)} {fs : List (Str × D)}, FsR G vs fs → vs.length = fs.length
  | _, _, .nil => rfl
  | _, _, .cons _ r => by rw [List.length_cons, List.length_cons, r.len]
theorem FsR.put {G : Hp} {f : Str} {v : V} {d : D} (h : Dr G v d) : ∀ {vs : List (Str × V)} {fs : List (Str × D)}, FsR G vs fs → FsR G (L2.putF f v vs) (putO f d fs)
  | _, _, .nil => .cons h .nil
  | _, _, .cons (f := g) h' r => by
    unfold L2.putF putO
    split
    · exact .cons h r
    · exact .cons h' (r.put h)
theorem nt_dT {a : Addr} {xs : Ens} : NT (DO a xs) := fun _ z => nomatch z
def HotAt (σ : St) (ρ : Rho) (a : Addr) : Prop := ∃ (i : Nat) (sv : SV), σ[i]? = some (some (.ref a)) ∧ ρ[i]? = some sv ∧ hot sv = true
variable [CA : ClsA]
inductive SlotR (G H : Hp) : Option V → SV → Prop
  | un (o : Option V) : SlotR G H o .un
  | val {v : V} {d : D} : Dr G v d → SlotR G H (some v) (.val d)
  | own {a : Addr} {xs : List V} {ds : List D} : H a = some (.lst xs) → G a = none → Drs G xs ds → SlotR G H (some (.ref a)) (.own ds)
  | row {a : Addr} {xs : List V} {ds : List D} : H a = some (.lst xs) → G a = none → Drs G xs ds → SlotR G H (some (.ref a)) (.row ds)
  | dct {a : Addr} {xs : Ens} {kvs : List (List Int × D)} : H a = some (DO a xs) → G a = none → KvR G xs kvs → SlotR G H (some (.ref a)) (.dct false kvs)
  | dcf {a : Addr} {o : Obj} {xs : Ens} {kvs : List (List Int × D)} : G a = some (.frz o (DO a xs)) → KvR G xs kvs → SlotR G H (some (.ref a)) (.dct true kvs)
  | dk {a : Addr} {xs : List (L2.Key × V)} {kvs : List (L2.Key × D)} : H a = some (.dK xs) → G a = none → KdR G xs kvs → SlotR G H (some (.ref a)) (.dk kvs)
  | gho {a : Addr} {xs : List V} {ds : List D} : H a = some (.lst xs) → G a = none → Drs G xs ds → SlotR G H (some (.ref a)) (.gho ds)
  | oll (o : Option V) (lo n : Nat) : SlotR G H o (.oll lo n)
  | rdc {a : Addr} {xs : Ens} {kvs : List (List Int × D)} : H a = some (DO a xs) → G a = none → KvR G xs kvs → SlotR G H (some (.ref a)) (.rdc kvs)
  | obj {a dx : Addr} {vs : List (Str × V)} {fs : List (Str × D)} : H a = some (.ins CA.a dx vs) → G a = none → FsR G vs fs → SlotR G H (some (.ref a)) (.obj fs)
/-- slots that a caller has lent -/
def lnt : SV → Option Nat
  | .row _ => some 1
  | .rdc _ => some 0
  | .obj _ => some 2
  | _ => none
/-- a list of lists: the outer one is frozen, its rows stand in ghost slots -/
def Tie (G : Hp) (σ : St) (ρ : Rho) : Prop := ∀ (j lo n : Nat), ρ[j]? = some (.oll lo n) → ∃ a xs, σ[j]? = some (some (.ref a)) ∧ G a = some (.lst xs) ∧ xs.length = n ∧
  ∀ (k : Nat) (ds : List D), k < n → ρ[lo + k]? = some (.gho ds) → σ[lo + k]? = some xs[k]?
theorem Tie.mono {G G' : Hp} {σ : St} {ρ : Rho} (t : Tie G σ ρ) (s : Same G G') : Tie G' σ ρ := fun j lo n h => by
  obtain ⟨a, xs, h1, h2, h3, h4⟩ := t j lo n h
  exact ⟨a, xs, h1, s _ _ h2, h3, h4⟩
def tied : SV → Bool
  | .gho _ => true
  | .oll _ _ => true
  | _ => false
/-- a slot is stored that is no part of a list of lists behind it -/
theorem Tie.set {G : Hp} {σ : St} {ρ : Rho} (t : Tie G σ ρ) {i : Nat} {sv : SV} (hs : tied sv = false) {σ' : St} (hσ : ∀ j, j ≠ i → σ'[j]? = σ[j]?) : Tie G σ' (ρ.set i sv) := fun j lo n h => by
  have at_ : ∀ {k : Nat} {w : SV}, tied w = true → (ρ.set i sv)[k]? = some w → k ≠ i ∧ ρ[k]? = some w := fun {k w} hw hk => by
    by_cases e : i = k
    · subst e
      by_cases hj : i < ρ.length
      · rw [List.getElem?_set_self hj] at hk; cases hk; rw [hs] at hw; cases hw
      · rw [List.getElem?_eq_none (by simpa using hj)] at hk; cases hk
    · rw [List.getElem?_set_ne e] at hk; exact ⟨fun z => e z.symm, hk⟩
  obtain ⟨hj, h⟩ := at_ rfl h
  obtain ⟨a, xs, h1, h2, h3, h4⟩ := t j lo n h
  refine ⟨a, xs, by rw [hσ j hj]; exact h1, h2, h3, fun k ds hk hg => ?_⟩
  obtain ⟨hk', hg⟩ := at_ rfl hg
  rw [hσ _ hk']
  exact h4 k ds hk hg
theorem Tie.setR {G : Hp} {σ : St} {ρ : Rho} (t : Tie G σ ρ) {i : Nat} {sv : SV} (hs : tied sv = false) : Tie G σ (ρ.set i sv) := t.set hs fun _ _ => rfl
/-- a row is written in place -/
theorem Tie.gho {G : Hp} {σ : St} {ρ : Rho} (t : Tie G σ ρ) {i : Nat} {ds es : List D} (h0 : ρ[i]? = some (.gho ds)) : Tie G σ (ρ.set i (.gho es)) := fun j lo n h => by
  have hi : i < ρ.length := (List.getElem?_eq_some_iff.mp h0).1
  have hj : i ≠ j := fun e => by subst e; rw [List.getElem?_set_self hi] at h; cases h
  rw [List.getElem?_set_ne hj] at h
  obtain ⟨a, xs, h1, h2, h3, h4⟩ := t j lo n h
  refine ⟨a, xs, h1, h2, h3, fun k ds hk hg => ?_⟩
  by_cases e : i = lo + k
  · subst e; exact h4 k _ hk h0
  · rw [List.getElem?_set_ne e] at hg; exact h4 k ds hk hg
theorem Tie.no {G : Hp} {σ : St} {ρ : Rho} (h : ∀ (j lo n : Nat), ρ[j]? ≠ some (.oll lo n)) : Tie G σ ρ := fun j lo n e => absurd e (h j lo n)
structure Rel (G H : Hp) (σ : St) (ρ : Rho) : Prop where
  le : Same G H
  len : σ.length = ρ.length
  slot : ∀ (i : Nat) (o : Option V) (sv : SV), σ[i]? = some o → ρ[i]? = some sv → SlotR G H o sv
  sep : ∀ (i j : Nat) (a : Addr) (sv sv' : SV), σ[i]? = some (some (.ref a)) → ρ[i]? = some sv → hot sv = true → σ[j]? = some (some (.ref a)) → ρ[j]? = some sv' → hot sv' = true → i = j
  tie : Tie G σ ρ
theorem lnt_at {o : Option SV} {b : Nat} (h : o.bind lnt = some b) : ∃ sv, o = some sv ∧ lnt sv = some b := by
  cases o with
  | none => cases h
  | some sv => exact ⟨sv, rfl, h⟩
structure Ext (G H : Hp) (σ : St) (ρ : Rho) (G' H' : Hp) (σ' : St) (ρ' : Rho) : Prop where
  sub : Same G G'
  keep : ∀ a o, H a = some o → ¬ HotAt σ ρ a → H' a = some o
  cold : ∀ a o, H a = some o → G a = none → ¬ HotAt σ ρ a → NT o → G' a = none
  dom : ∀ a, H' a = none → H a = none
  old : ∀ a, HotAt σ' ρ' a → HotAt σ ρ a ∨ H a = none
  row : ∀ (i : Nat) (a : Addr) (b : Nat), σ[i]? = some (some (.ref a)) → ρ[i]?.bind lnt = some b → σ'[i]? = some (some (.ref a)) ∧ ρ'[i]?.bind lnt = some b
theorem some_of {H : Hp} {a : Addr} (h : H a ≠ none) : ∃ o, H a = some o := by
  cases e : H a with
  | none => exact absurd e h
  | some o => exact ⟨o, rfl⟩
section
variable {G H G1 H1 G2 H2 : Hp} {σ σ1 σ2 : St} {ρ ρ1 ρ2 : Rho}
theorem Ext.refl : Ext G H σ ρ G H σ ρ := ⟨Same.refl _, fun _ _ h _ => h, fun _ _ _ h _ _ => h, fun _ h => h, fun _ h => .inl h, fun _ _ _ h1 h2 => ⟨h1, h2⟩⟩
theorem Ext.cool (e : Ext G H σ ρ G1 H1 σ1 ρ1) {a : Addr} {o : HO} (h : H a = some o) (n : ¬ HotAt σ ρ a) : ¬ HotAt σ1 ρ1 a := fun z => by
  rcases e.old a z with z | z
  · exact n z
  · rw [h] at z; cases z
theorem Ext.trans (e : Ext G H σ ρ G1 H1 σ1 ρ1) (f : Ext G1 H1 σ1 ρ1 G2 H2 σ2 ρ2) : Ext G H σ ρ G2 H2 σ2 ρ2 where
  sub := e.sub.trans f.sub
  keep := fun a o h n => f.keep a o (e.keep a o h n) (e.cool h n)
  cold := fun a o h g n t => f.cold a o (e.keep a o h n) (e.cold a o h g n t) (e.cool h n) t
  dom := fun a h => e.dom a (f.dom a h)
  old := fun a z => by
    rcases f.old a z with z | z
    · exact e.old a z
    · exact .inr (e.dom a z)
  row := fun i a b h1 h2 => by
    obtain ⟨q1, q2⟩ := e.row i a b h1 h2
    exact f.row i a b q1 q2
theorem Rel.hotH (r : Rel G H σ ρ) {a : Addr} (h : HotAt σ ρ a) : ∃ u, H a = some u ∧ G a = none ∧ NT u := by
  obtain ⟨i, sv, h1, h2, h3⟩ := h
  have := r.slot i _ sv h1 h2
  cases this with
  | un => cases h3
  | val _ => cases h3
  | own a b c => exact ⟨_, a, b, nt_lst⟩
  | row a b c => exact ⟨_, a, b, nt_lst⟩
  | dct a b c => exact ⟨_, a, b, nt_dT⟩
  | dcf a b => cases h3
  | dk a b c => exact ⟨_, a, b, nt_dK⟩
  | gho a b c => exact ⟨_, a, b, nt_lst⟩
  | oll _ _ _ => cases h3
  | rdc a b c => exact ⟨_, a, b, nt_dT⟩
  | obj a b c => exact ⟨_, a, b, nt_ins⟩
theorem Rel.hotG (r : Rel G H σ ρ) {a : Addr} (h : HotAt σ ρ a) : G a = none := by
  obtain ⟨_, _, q, _⟩ := r.hotH h
  exact q
theorem Rel.ntH (r : Rel G H σ ρ) {a : Addr} {o : HO} (z : HotAt σ ρ a) (h : H a = some o) : NT o := by
  obtain ⟨u, h1, _, h3⟩ := r.hotH z
  rw [h] at h1; cases h1; exact h3
theorem Rel.cold (r : Rel G H σ ρ) {a : Addr} {o : HO} (h : G a = some o) : ¬ HotAt σ ρ a := fun z => by
  obtain ⟨xs, _, q, _⟩ := r.hotH z
  rw [h] at q; cases q
theorem Rel.new (r : Rel G H σ ρ) {a : Addr} (h : H a = none) : ¬ HotAt σ ρ a ∧ G a = none := by
  refine ⟨fun z => ?_, ?_⟩
  · obtain ⟨xs, q, _⟩ := r.hotH z
    rw [h] at q; cases q
  · cases e : G a with
    | none => rfl
    | some o => rw [r.le a o e] at h; cases h
/-- the same slots over a grown frozen part and a heap that keeps what the slots hold -/
theorem Rel.grow (r : Rel G H σ ρ) (s : Same G G1) (le : Same G1 H1) (k : ∀ a u, HotAt σ ρ a → H a = some u → H1 a = some u ∧ G1 a = none) : Rel G1 H1 σ ρ := by
  refine ⟨le, r.len, fun i o sv h1 h2 => ?_, r.sep, r.tie.mono s⟩
  have q := r.slot i o sv h1 h2
  cases q with
  | un => exact .un _
  | val h => exact .val (h.mono s)
  | own a b c =>
    obtain ⟨q1, q2⟩ := k _ _ ⟨i, _, h1, h2, rfl⟩ a
    exact .own q1 q2 (c.mono s)
  | row a b c =>
    obtain ⟨q1, q2⟩ := k _ _ ⟨i, _, h1, h2, rfl⟩ a
    exact .row q1 q2 (c.mono s)
  | dct a b c =>
    obtain ⟨q1, q2⟩ := k _ _ ⟨i, _, h1, h2, rfl⟩ a
    exact .dct q1 q2 (c.mono s)
  | dcf a b => exact .dcf (s _ _ a) (b.mono s)
  | dk a b c =>
    obtain ⟨q1, q2⟩ := k _ _ ⟨i, _, h1, h2, rfl⟩ a
    exact .dk q1 q2 (c.mono s)
  | gho a b c =>
    obtain ⟨q1, q2⟩ := k _ _ ⟨i, _, h1, h2, rfl⟩ a
    exact .gho q1 q2 (c.mono s)
  | oll o lo n => exact .oll o lo n
  | rdc a b c =>
    obtain ⟨q1, q2⟩ := k _ _ ⟨i, _, h1, h2, rfl⟩ a
    exact .rdc q1 q2 (c.mono s)
  | obj a b c =>
    obtain ⟨q1, q2⟩ := k _ _ ⟨i, _, h1, h2, rfl⟩ a
    exact .obj q1 q2 (c.mono s)
end

/-! ### a value that an expression gives -/
/-- H0: the heap ahead of the expression -/
inductive SvR (G H : Hp) (σ : St) (ρ : Rho) (H0 : Hp) : V → SV → Prop
  | val {v : V} {d : D} : Dr G v d → SvR G H σ ρ H0 v (.val d)
  | own {a : Addr} {xs : List V} {ds : List D} : H a = some (.lst xs) → G a = none → Drs G xs ds → H0 a = none → ¬ HotAt σ ρ a → SvR G H σ ρ H0 (.ref a) (.own ds)
  | dct {a : Addr} {xs : Ens} {kvs : List (List Int × D)} : H a = some (DO a xs) → G a = none → KvR G xs kvs → H0 a = none → ¬ HotAt σ ρ a → SvR G H σ ρ H0 (.ref a) (.dct false kvs)
  | dk {a : Addr} {xs : List (L2.Key × V)} {kvs : List (L2.Key × D)} : H a = some (.dK xs) → G a = none → KdR G xs kvs → H0 a = none → ¬ HotAt σ ρ a → SvR G H σ ρ H0 (.ref a) (.dk kvs)
/-- a value that an operation gives, the slots untouched -/
def SvV (G H : Hp) (G' H' : Hp) (v : V) (sv : SV) : Prop := match sv with
  | .val d => Dr G' v d
  | .own ds => ∃ a xs, v = .ref a ∧ H a = none ∧ G' a = none ∧ H' a = some (.lst xs) ∧ Drs G' xs ds
  | .dct false kvs => ∃ a xs, v = .ref a ∧ H a = none ∧ G' a = none ∧ H' a = some (DO a xs) ∧ KvR G' xs kvs
  | .dk kvs => ∃ a xs, v = .ref a ∧ H a = none ∧ G' a = none ∧ H' a = some (.dK xs) ∧ KdR G' xs kvs
  | _ => False
def SvN (G H : Hp) (v : V) (sv : SV) (H' : Hp) : Prop := ∃ G', Same G G' ∧ Same G' H' ∧ Same H H' ∧ (∀ a o, H a = some o → G a = none → NT o → G' a = none) ∧ SvV G H G' H' v sv
section
variable {G H G1 H1 H0 : Hp} {σ : St} {ρ : Rho} {v : V} {d : D} {ds : List D} {sv : SV}
/-- behind such an operation -/
theorem fin_new (r : Rel G H σ ρ) (n : SvN G H v sv H1) : ∃ G1, Ext G H σ ρ G1 H1 σ ρ ∧ Rel G1 H1 σ ρ ∧ SvR G1 H1 σ ρ H v sv := by
  obtain ⟨G', s1, s2, s3, f, q⟩ := n
  refine ⟨G', ⟨s1, fun a o h _ => s3 a o h, fun a o h g _ t => f a o h g t, fun a h => s3.free h, fun a h => .inl h, fun i a b h1 h2 => ⟨h1, h2⟩⟩, r.grow s1 s2 fun a xs z h => ⟨s3 _ _ h, f a _ h (r.hotG z) (by
    obtain ⟨u, h1, _, h3⟩ := r.hotH z
    rw [h] at h1; cases h1; exact h3)⟩, ?_⟩
  cases sv with
  | val d => exact .val q
  | own ds =>
    obtain ⟨a, xs, rfl, n1, g1, h1, q⟩ := q
    exact .own h1 g1 q n1 (r.new n1).1
  | dct lk kvs =>
    cases lk with
    | true => exact q.elim
    | false =>
      obtain ⟨a, xs, rfl, n1, g1, h1, q⟩ := q
      exact .dct h1 g1 q n1 (r.new n1).1
  | un => exact q.elim
  | row _ => exact q.elim
  | gho _ => exact q.elim
  | oll _ _ => exact q.elim
  | rdc _ => exact q.elim
  | obj _ => exact q.elim
  | dk kvs =>
    obtain ⟨a, xs, rfl, n1, g1, h1, q⟩ := q
    exact .dk h1 g1 q n1 (r.new n1).1
/-- a value is frozen, if it is used as a part of another -/
theorem freeze {ρ0 : Rho} {G0 : Hp} (e : Ext G0 H0 σ ρ0 G H σ ρ) (r : Rel G H σ ρ) (h : SvR G H σ ρ H0 v sv) (z : frz sv = some d) :
    ∃ G1, Ext G0 H0 σ ρ0 G1 H σ ρ ∧ Rel G1 H σ ρ ∧ Dr G1 v d := by
  cases h with
  | dct _ _ _ _ _ => cases z
  | dk _ _ _ _ _ => cases z
  | val q => cases z; exact ⟨G, e, r, q⟩
  | @own a xs ds h1 g q n c =>
    cases z
    have s1 : Same G (upd G a (.lst xs)) := fun b o hb => by rw [upd_ne (ne_of_none hb g)]; exact hb
    refine ⟨upd G a (.lst xs), ⟨e.sub.trans s1, e.keep, fun b o hb hg hn t => ?_, e.dom, e.old, e.row⟩, r.grow s1 (fun b o hb => ?_) fun b ys z hb => ⟨hb, ?_⟩, .lst upd_same (q.mono s1)⟩
    · rw [upd_ne (show b ≠ a from ne_of_none hb n)]
      exact e.cold b o hb hg hn t
    · by_cases hba : b = a
      · subst hba; rw [upd_same] at hb; cases hb; exact h1
      · rw [upd_ne hba] at hb; exact r.le b o hb
    · rw [upd_ne (fun hba => c (by rw [← hba]; exact z))]
      exact (r.hotG z)
/-- a value waits while another expression is run -/
theorem SvR.wait {ρ1 : Rho} (h : SvR G H σ ρ H0 v sv) (e : Ext G H σ ρ G1 H1 σ ρ1) : SvR G1 H1 σ ρ1 H0 v sv := by
  cases h with
  | val q => exact .val (q.mono e.sub)
  | own h1 g q n c => exact .own (e.keep _ _ h1 c) (e.cold _ _ h1 g c nt_lst) (q.mono e.sub) n (e.cool h1 c)
  | dct h1 g q n c => exact .dct (e.keep _ _ h1 c) (e.cold _ _ h1 g c nt_dT) (q.mono e.sub) n (e.cool h1 c)
  | dk h1 g q n c => exact .dk (e.keep _ _ h1 c) (e.cold _ _ h1 g c nt_dK) (q.mono e.sub) n (e.cool h1 c)
/-- the heap ahead moved back -/
theorem SvR.older {H00 : Hp} (h : SvR G H σ ρ H0 v sv) (k : ∀ a, H0 a = none → H00 a = none) : SvR G H σ ρ H00 v sv := by
  cases h with
  | val q => exact .val q
  | own h1 g q n c => exact .own h1 g q (k _ n) c
  | dct h1 g q n c => exact .dct h1 g q (k _ n) c
  | dk h1 g q n c => exact .dk h1 g q (k _ n) c
end
/-- what may be read as d -/
def RdR (G H : Hp) (v : V) (d : D) : Prop := Dr G v d ∨ ∃ a xs ds, v = .ref a ∧ H a = some (.lst xs) ∧ Drs G xs ds ∧ d = .list ds
end DP

/-! the operations, by values -/
namespace DP
open PySem PySem.Spec PyProof.Rows L2

theorem okL_le {n : Nat} (h : okL n = true) : n < sizeLine := by
  have := okL_lt h
  rw [sizeLine_eq]; exact this
theorem same_upd {H : Hp} {p : Addr} {o : HO} (h : H p = none) : Same H (upd H p o) := fun b x e => by
  rw [upd_ne (ne_of_none e h)]; exact e
theorem ite_some {α : Type} {c : Bool} {a b : α} (h : (if c = true then some a else none) = some b) : c = true ∧ a = b := by
  cases c with
  | true => exact ⟨rfl, Option.some.inj h⟩
  | false => cases h
section
variable {G H : Hp} {x : V} {d : D} {ds : List D}
/-- a value that stands already -/
theorem svn_old (s : Same G H) (h : Dr G x d) : SvN G H x (.val d) H := ⟨G, Same.refl _, s, Same.refl _, fun _ _ _ g _ => g, h⟩
theorem svn_int {s : Same G H} (i : Int) : SvN G H (.int i) (.val (.int i)) H := svn_old s (.int i)
/-- a new tuple -/
theorem svn_tup {p : Addr} {o : Obj} {xs : List V} (s : Same G H) (h : Drs G xs ds) (n : H p = none) (hd : o.dict = none) : SvN G H (.ref p) (.val (.tuple ds)) (upd H p (.frz o (.tup xs))) := by
  have gn := s.free n
  refine ⟨upd G p (.frz o (.tup xs)), same_upd gn, fun b o e => ?_, same_upd n, fun a o e g _ => ?_, .tup ⟨o, upd_same, hd⟩ (h.mono (same_upd gn))⟩
  · by_cases hb : b = p
    · subst hb; rw [upd_same] at e ⊢; exact e
    · rw [upd_ne hb] at e ⊢; exact s b o e
  · rw [upd_ne (ne_of_none e n)]; exact g
theorem svn_pr {p : Addr} {xs : List V} (s : Same G H) (h : Drs G xs ds) (n : H p = none) : Same G (upd G p (.tup xs)) ∧ Same (upd G p (.tup xs)) (upd H p (.tup xs)) ∧ Same H (upd H p (.tup xs)) ∧
    (∀ b o, H b = some o → G b = none → NT o → upd G p (.tup xs) b = none) ∧ Dr (upd G p (.tup xs)) (.ref p) (prD ds) := by
  have gn := s.free n
  refine ⟨same_upd gn, fun b o e => ?_, same_upd n, fun a o e g _ => ?_, .pr upd_same (h.mono (same_upd gn))⟩
  · by_cases hb : b = p
    · subst hb; rw [upd_same] at e ⊢; exact e
    · rw [upd_ne hb] at e ⊢; exact s b o e
  · rw [upd_ne (ne_of_none e n)]; exact g
theorem svn_dc0 {p : Addr} (s : Same G H) (n : H p = none) : SvN G H (.ref p) (.val (.dict [])) (upd H p (.dT [])) := by
  have gn := s.free n
  refine ⟨upd G p (.dT []), same_upd gn, fun b o e => ?_, same_upd n, fun a o e g _ => ?_, .dc0 upd_same⟩
  · by_cases hb : b = p
    · subst hb; rw [upd_same] at e ⊢; exact e
    · rw [upd_ne hb] at e ⊢; exact s b o e
  · rw [upd_ne (ne_of_none e n)]; exact g
theorem svn_lst {p : Addr} {xs : List V} (s : Same G H) (h : Drs G xs ds) (n : H p = none) : SvN G H (.ref p) (.own ds) (upd H p (.lst xs)) :=
  ⟨G, Same.refl _, s.trans (same_upd n), same_upd n, fun _ _ _ g _ => g, p, xs, rfl, n, s.free n, upd_same, h⟩
end

/-! ### new tuples, known to the object -/
/-- what a new tuple may be -/
def NewT (H : Hp) (xs : List V) (Q : VK) : Prop := ∀ p o, H p = none → o.dict = none → Q (.ref p) (upd H p (.frz o (.tup xs)))
section
variable {X : Cx} {pins : List (Addr × Obj)} {σ : L2.St} {H : Hp} {s : Shared} {xs : List V} {its : List Value} {tk : Nat} {Q : VK}
/-- the state behind the laying of a tuple -/
theorem newT_laid (I : Inv X pins σ H s) (r : Vals xs its) (hz : xs.length ≤ sizeLine) (q : NewT H xs Q) : EP X pins σ Q (.ref s.heap.objs.size) { s with heap := s.heap.push { cls := .type "tuple", data := .seq its.toArray }, toks := tk } := by
  have hob : ObjOk X.prog X.w (upd H s.heap.objs.size (.frz { cls := .type "tuple", data := .seq its.toArray } (.tup xs))) (s.heap.push { cls := .type "tuple", data := .seq its.toArray }) s.heap.objs.size (.frz { cls := .type "tuple", data := .seq its.toArray } (.tup xs)) :=
    ⟨Heap.get?_push_size _ rfl, hz, its, r, IsTup.new _ _⟩
  exact ⟨.ref s.heap.objs.size, _, I.laid (t' := tk) (fun b ob z => Heap.get?_push_of_some _ z) (Nat.le_refl _) hob, rfl, q _ _ (I.hok.fresh (Nat.le_refl _)) rfl⟩
end
section
variable {X : Cx}
/-- t + u -/
def rCatF (K : PySem.W.Frag) : R2 := fun x y H Q => ∃ a b xs ys, x = .ref a ∧ y = .ref b ∧ SqT K H a xs ∧ SqT K H b ys ∧ xs.length + ys.length ≤ sizeLine ∧
  (xs = [] → Q (.ref b) H) ∧ (ys = [] → Q (.ref a) H) ∧ NewT H (xs ++ ys) Q
theorem op_catF : OpR X (binaryOp .Add) (rCatF X.K) := by
  intro pins s σ H x y v u Q I rx ry h
  obtain ⟨a, b, xs, ys, rfl, rfl, ha, hb, hz, q0, q1, q2⟩ := h
  cases rx
  cases ry
  obtain ⟨va, r1, p1, _⟩ := I.tuple ha
  obtain ⟨vb, r2, p2, _⟩ := I.tuple hb
  by_cases hx : xs = []
  · subst hx
    cases r1
    exact cat_tup0 p1 p2 ⟨.ref b, H, I, rfl, q0 rfl⟩
  · exact HT.cat_tup p1 p2 (fun z => hx (r1.nil_iff.mp z)) (fun z => ⟨.ref a, H, I, rfl, q1 (r2.nil_iff.mp z)⟩)
      (fun _ => newT_laid I (r1.append r2) (by rw [List.length_append]; exact hz) q2) (by rw [← r1.length, ← r2.length]; exact hz)
/-- t[lo:hi] -/
def rSlF (K : PySem.W.Frag) : V → Option Int → Option Int → Hp → VK → Prop := fun x lo hi H Q => ∃ a xs, x = .ref a ∧ SqT K H a xs ∧
  (HT.sIx xs.length 0 lo = 0 ∧ HT.sIx xs.length xs.length hi = xs.length → Q (.ref a) H) ∧ NewT H (cutV xs lo hi) Q
theorem sl_tupF : SlR X (rSlF X.K) := by
  intro pins s σ H x v vl vu lo hi sl Q I rx hs pl pu h
  obtain ⟨a, xs, rfl, hx, q1, q2⟩ := h
  cases rx
  obtain ⟨its, r, ht, hz⟩ := I.tuple hx
  have hlen : its.toArray.size = xs.length := by rw [List.size_toArray]; exact r.length.symm
  refine ⟨"tuple", _, PyProof.Rows.slot_tuple_getitem.lookup, ht.typeIs, ?_⟩
  by_cases hw : HT.sIx xs.length 0 lo = 0 ∧ HT.sIx xs.length xs.length hi = xs.length
  · exact getItem_tuple_whole ht hs pl pu (by rw [hlen]; exact hw) ⟨.ref a, H, I, rfl, q1 hw⟩
  · refine HT.getItem_tuple_cut ht hs pl pu (by rw [hlen]; exact hw) ?_ (by rw [hlen]; exact hz)
    rw [hlen]
    exact newT_laid I ((r.drop (HT.sIx xs.length 0 lo)).take (HT.sIx xs.length xs.length hi - HT.sIx xs.length 0 lo)) (Nat.le_trans (cutV_length xs lo hi) hz) q2
/-- tuple(xs) -/
theorem call_tupF : CallR X (.type "tuple") (fun vs H Q => ∃ p ys, vs = [.ref p] ∧ ((SqL X.K H p ys ∧ NewT H ys Q) ∨ (SqT X.K H p ys ∧ Q (.ref p) H))) := by
  intro pins s σ H xs us Q I r h
  obtain ⟨p, ys, rfl, h⟩ := h
  rw [Vals.ref1 r]
  rcases h with ⟨hq, q⟩ | ⟨hq, q⟩
  · obtain ⟨its, rv, pl, hz⟩ := I.list hq
    refine call_tuple_list pl.isList (fun h' kp => ?_) (by rw [List.size_toArray, ← rv.length]; exact hz)
    have I1 : Inv X pins σ H { s with heap := h' } := I.kept (t' := s.toks) kp
    exact newT_laid (tk := s.toks) I1 rv hz q
  · obtain ⟨its, rv, pl, hz⟩ := I.tuple hq
    exact call_tuple_same pl ⟨.ref p, H, I, rfl, q⟩
/-- (a, b, ..) -/
theorem pe_tupF {es : List Expr} {t : TA} {x1 : Nat} {pos : Pos} (h : PA X es t) : PE X (.Tuple es x1 pos) (fun σ H Q => t σ H fun xs H1 => xs.length ≤ sizeLine ∧ NewT H1 xs Q) := by
  refine ⟨fun pins s σ H Q I hq => wpAny_Tuple_spliced (thn (h.run pos pins s σ H _ I hq) fun us s1 ⟨xs, H1, I1, r, z, q⟩ => ?_)⟩
  exact ⟨by rw [← r.length]; exact z, newT_laid I1 r z q⟩
end

section
variable {X : Cx} {e : Expr} {te : L2.St → Hp → (Int → Int → Hp → Prop) → Prop}
/-- tuple(range(..)) -/
theorem pe_tupRgF {p pos : Pos} (hc : X.calm = true) (hg : Gl X "tuple") (hm : X.mg "tuple" = none) (he : PRg X e te) (na : starEach [e] X.env = (false, eval e X.env) :: starEach [] X.env := by rfl) :
    PE X (.Call (.Name "tuple" p) [e] [] pos) (fun σ H Q => te σ H fun a b H1 => RgOk a b ∧ NewT H1 (rgV a b) Q) := by
  refine ⟨fun pins s σ H Q I h => Call_ (ld_blt I hg hm boot_tuple (PyProof.Rows.callWith_type1 (args_cons (thn (he pins s σ H _ I h) fun x s1 ⟨r, a, b, t, u, v, H1, ex, hr, I1, ok, q⟩ => args_nil ?_) na) na))⟩
  subst ex
  obtain ⟨b1, b2, b3, b4, b5⟩ := ok
  refine call_tuple_range (n := (b - a).toNat) (I1.ok.hd hc) hr (small_one b1 b2 b3 b4) (rangeSize_nat a b) b5 fun h' tk acc hk hi => ?_
  have I2 : Inv X pins σ H1 { s1 with heap := h', toks := tk } := I1.kept hk
  have fin := newT_laid (tk := tk) I2 (vals_rg hi) (by rw [rgV_length, sizeLine_eq]; omega) q
  rw [Array.toArray_toList] at fin
  exact fin
end

/-! ### tuple * 1, tuple * 0 -/
theorem tuple_mul1 (l : Addr) (items : Array Value) (n : Nat) (dd : Option Addr) (sl : Array (Option Value)) (u : Tok) :
    Meets (Builtin.«tuple.__mul__» ⟨[.ref l, .int 1 u], []⟩) (fun _ R s => s.heap.get? l = some { cls := .type "tuple", dict := dd, data := .seq items n, slots := sl } ∧ R (.ok (.ret (Value.ref l))) s) :=
  .of_wp fun prog w A R s h => by
    obtain ⟨hp, g, d, tk, os⟩ := s
    obtain ⟨hl, h⟩ := h
    have f1 := AutoSeq1.idx_int
    have c0 : (decide ((1 : Int) < -(2 ^ 63)) || decide ((1 : Int) ≥ 2 ^ 63)) = false := by decide
    have c1 : (items.isEmpty || (1 : Int) == 1) = true := by simp
    wp_walk using wpAny_loadPart' hl
    repeat (first
      | (refine wpAny_ite_false (decide_eq_false (by rw [c0]; exact Bool.false_ne_true)) ?_; wp_walk using wpAny_loadPart' hl)
      | (refine wpAny_ite_true (decide_eq_true c1) ?_; wp_walk using wpAny_loadPart' hl))
    try exact ⟨_, rfl, h⟩
theorem tuple_mul0 (l : Addr) (items : Array Value) (n : Nat) (dd : Option Addr) (sl : Array (Option Value)) (x : Int) (u : Tok) (hx : x ≤ 0) (hx2 : -1000 ≤ x) (hi : items.isEmpty = false) :
    Meets (Builtin.«tuple.__mul__» ⟨[.ref l, .int x u], []⟩) (fun _ R s => s.heap.get? l = some { cls := .type "tuple", dict := dd, data := .seq items n, slots := sl } ∧
      R (.ok (.ret (Value.ref s.heap.objs.size))) { s with heap := s.heap.push { cls := Value.type "tuple", data := Data.seq #[] }, toks := s.toks }) :=
  .of_wp fun prog w A R s h => by
    obtain ⟨hp, g, d, tk, os⟩ := s
    obtain ⟨hl, h⟩ := h
    have f1 := AutoSeq1.idx_int
    have c0 : (decide (x < -(2 ^ 63)) || decide (x ≥ 2 ^ 63)) = false := by
      rw [decide_eq_false (by omega), decide_eq_false (by omega)] <;> rfl
    have c1 : (items.isEmpty || x == 1) = false := by
      rw [hi, Bool.false_or]; exact beq_eq_false_iff_ne.mpr (by omega)
    have c2 : (decide (x ≤ 0) || items.isEmpty) = true := by rw [decide_eq_true hx]; rfl
    wp_walk using wpAny_loadPart' hl
    repeat (first
      | (refine wpAny_ite_false (decide_eq_false (by rw [c0]; exact Bool.false_ne_true)) ?_; wp_walk using wpAny_loadPart' hl)
      | (refine wpAny_ite_false (decide_eq_false (by rw [c1]; exact Bool.false_ne_true)) ?_; wp_walk using wpAny_loadPart' hl)
      | (refine wpAny_ite_true (decide_eq_true c2) ?_; wp_walk using wpAny_loadPart' hl))
    try exact ⟨_, rfl, h⟩
section
variable {X : Cx}
/-- tuple * int -/
def rRepA (K : PySem.W.Frag) : R2 := fun x y H Q => ∃ l k xs, x = .ref l ∧ y = .int k ∧ SqT K H l xs ∧ xs ≠ [] ∧ -1000 ≤ k ∧ k ≤ 1000 ∧ xs.length ≤ 1000 ∧
  (k = 1 → Q (.ref l) H) ∧ (k ≠ 1 → NewT H (List.replicate k.toNat xs).flatten Q)
theorem op_repA : OpR X (binaryOp .Mult) (rRepA X.K) := by
  intro pins s σ H x y v u Q I rx ry h
  obtain ⟨l, k, xs, rfl, rfl, hT, hne, h0, h2, hz, q1, q2⟩ := h
  cases rx
  obtain ⟨t, rfl⟩ := ry
  obtain ⟨its, r, ⟨⟨cls, dd, data, sl⟩, ho, hc, n, hd⟩, hs⟩ := I.tuple hT
  simp only at hc hd
  subst hc hd
  have hn : its.toArray.isEmpty = false := by
    cases its with
    | nil => cases r; exact absurd rfl hne
    | cons a b => rfl
  have len1 : its.length = xs.length := r.length.symm
  have len2 : its.toArray.size = xs.length := by rw [List.size_toArray, len1]
  have wide : k.toNat * xs.length ≤ 1000 * 1000 := Nat.mul_le_mul (by omega) hz
  by_cases hk : 2 ≤ k
  · have big : ((its.toArray.size : Nat) : Int) * k ≤ 1000000 := by
      rw [len2]
      have w1 : ((xs.length : Nat) : Int) * k ≤ 1000 * k := Int.mul_le_mul_of_nonneg_right (by omega) (by omega)
      omega
    have fit : (List.replicate k.toNat its).flatten.length ≤ sizeLine := by
      rw [PyProof.Rows.lm_len_rep_flat, len1, sizeLine_eq]; omega
    have t0 : (decide (k < -(2 ^ 63)) || decide (k ≥ 2 ^ 63)) = false := by rw [decide_eq_false (by omega), decide_eq_false (by omega)] <;> rfl
    have t1 : (its.toArray.isEmpty || k == 1) = false := by rw [hn, Bool.false_or]; exact beq_eq_false_iff_ne.mpr (by omega)
    have t2 : (decide (k ≤ 0) || its.toArray.isEmpty) = false := by rw [hn, Bool.or_false]; exact decide_eq_false (by omega)
    have t4 : Builtin.Tuple.tupleTooMany (((its.toArray.size : Nat) : Int) * k) = false := by unfold Builtin.Tuple.tupleTooMany; rw [sizeLine_eq]; exact decide_eq_false (by omega)
    have mul := tuple_mulW l its.toArray n dd sl k t t0 t1 t2 (by omega) t4 (by rw [size_rep, List.size_toArray]; exact fit)
    refine wpAny_binaryOp_repeat_ref (T := "tuple") (U := "int") (by decide) ⟨_, ho, rfl⟩ (fun s' => typeIs_int s' k t) noFill_tuple_mul F.fills_int_mul F.slot_int_rmul repeat_tuple F.slot_int_index.lookup ?_
    refine call_meets F.slot_int_rmul (typeIs_int s k t) F.entry_int_rmul (F.args_int_rmul_2 _ _) (int_rmul_tuple k t l its.toArray n dd sl) ⟨ho, rfl, ⟨_, ho, rfl⟩, ?_⟩
    refine call_meets F.slot_tuple_mul ⟨_, ho, rfl⟩ F.entry_tuple_mul (F.args_tuple_mul_2 _ _) mul ⟨ho, ?_⟩
    rw [size_rep]
    exact newT_laid I (r.rep k.toNat) (by rw [PyProof.Rows.lm_len_rep_flat, sizeLine_eq]; omega) (q2 (by omega))
  · by_cases h1 : k = 1
    · subst h1
      exact wpAny_binaryOp_repeat_ref (T := "tuple") (U := "int") (by decide) ⟨_, ho, rfl⟩ (fun s' => typeIs_int s' 1 t) noFill_tuple_mul F.fills_int_mul F.slot_int_rmul repeat_tuple F.slot_int_index.lookup
        (call_meets F.slot_int_rmul (typeIs_int s 1 t) F.entry_int_rmul (F.args_int_rmul_2 _ _) (int_rmul_tuple 1 t l its.toArray n dd sl)
          ⟨ho, rfl, ⟨_, ho, rfl⟩, call_meets F.slot_tuple_mul ⟨_, ho, rfl⟩ F.entry_tuple_mul (F.args_tuple_mul_2 _ _) (tuple_mul1 l its.toArray n dd sl t) ⟨ho, ⟨.ref l, H, I, rfl, q1 rfl⟩⟩⟩)
    · refine wpAny_binaryOp_repeat_ref (T := "tuple") (U := "int") (by decide) ⟨_, ho, rfl⟩ (fun s' => typeIs_int s' k t) noFill_tuple_mul F.fills_int_mul F.slot_int_rmul repeat_tuple F.slot_int_index.lookup
        (call_meets F.slot_int_rmul (typeIs_int s k t) F.entry_int_rmul (F.args_int_rmul_2 _ _) (int_rmul_tuple k t l its.toArray n dd sl)
          ⟨ho, rfl, ⟨_, ho, rfl⟩, call_meets F.slot_tuple_mul ⟨_, ho, rfl⟩ F.entry_tuple_mul (F.args_tuple_mul_2 _ _) (tuple_mul0 l its.toArray n dd sl k t (by omega) h0 hn) ⟨ho, ?_⟩⟩)
      have ek : k.toNat = 0 := by omega
      have q3 := q2 h1
      rw [ek] at q3
      exact newT_laid (its := []) I .nil (Nat.zero_le _) q3

/-! ### + - * // % ** -/
def opO : Op2 → Operator
  | .add => .Add
  | .sub => .Sub
  | .mul => .Mult
  | .fdiv => .FloorDiv
  | .mod => .Mod
  | .pow => .Pow
def rOp (o : Op2) : R2 := fun x y H Q => ∃ G dx dy sv, Same G H ∧ Dr G x dx ∧ Dr G y dy ∧ op2 o dx dy = some sv ∧ ∀ v H', SvN G H v sv H' → Q v H'
theorem big_log {i : Int} (h : big i = true) : i.natAbs.log2 < 9000 := of_decide_eq_true h
theorem opr_imp {f : Value → Value → Sem Value} {r r' : R2} (h : OpR X f r) (k : ∀ x y H Q, r' x y H Q → r x y H Q) : OpR X f r' :=
  fun pins s σ H x y v u Q I rx ry q => h pins s σ H x y v u Q I rx ry (k _ _ _ _ q)
theorem op_ok (o : Op2) : OpR X (binaryOp (opO o)) (rOp o) := by
  intro pins s σ H x y v u Q I rx ry h
  obtain ⟨G, dx, dy, sv, sG, hx, hy, e, q⟩ := h
  cases o with
  | add =>
    cases hx with
    | int i =>
      cases hy with
      | int j => cases e; exact op_add pins s σ H _ _ v u Q I rx ry ⟨i, j, rfl, rfl, q _ _ (svn_int (s := sG) _)⟩
      | _ => cases e
    | str a =>
      cases hy with
      | str b =>
        obtain ⟨hz, e⟩ := ite_some e
        cases e
        exact op_add_str pins s σ H _ _ v u Q I rx ry ⟨a, b, rfl, rfl, Nat.le_of_lt (okL_le hz), q _ _ (svn_old sG (.str _))⟩
      | _ => cases e
    | lst ha ra =>
      cases hy with
      | lst hb rb =>
        obtain ⟨hz, e⟩ := ite_some e
        cases e
        have hl : _ := okL_le hz
        rw [← ra.length, ← rb.length] at hl
        exact op_cat pins s σ H _ _ v u Q I rx ry ⟨_, _, _, _, rfl, rfl, sG _ _ ha, sG _ _ hb, Nat.le_of_lt hl, fun p np => q _ _ (svn_lst sG (ra.append rb) np)⟩
      | _ => cases e
    | @tup a xs ds ha ra =>
      cases hy with
      | @tup b ys es hb rb =>
        obtain ⟨hz, e⟩ := ite_some e
        cases e
        have hl : _ := okL_le hz
        rw [← ra.length, ← rb.length] at hl
        refine op_catF pins s σ H _ _ v u Q I rx ry ⟨a, b, xs, ys, rfl, rfl, (ha.mono sG).sq, (hb.mono sG).sq, Nat.le_of_lt hl, fun e1 => ?_, fun e2 => ?_, fun p o np hd => q _ _ (svn_tup sG (ra.append rb) np hd)⟩
        · subst e1
          cases ra
          exact q _ _ (svn_old sG (.tup hb rb))
        · subst e2
          cases rb
          rw [List.append_nil] at q
          exact q _ _ (svn_old sG (.tup ha ra))
      | _ => cases e
    | _ => cases e
  | sub =>
    cases hx with
    | int i =>
      cases hy with
      | int j => cases e; exact op_sub pins s σ H _ _ v u Q I rx ry ⟨i, j, rfl, rfl, q _ _ (svn_int (s := sG) _)⟩
      | _ => cases e
    | _ => cases e
  | mul =>
    cases hx with
    | int i =>
      cases hy with
      | int j =>
        obtain ⟨hz, e⟩ := ite_some e
        cases e
        rw [Bool.and_eq_true] at hz
        have h1 := big_log hz.1
        have h2 := big_log hz.2
        exact op_mulW pins s σ H _ _ v u Q I rx ry ⟨i, j, rfl, rfl, by show _ + _ < _; omega, q _ _ (svn_int (s := sG) _)⟩
      | _ => cases e
    | lst ha ra =>
      cases hy with
      | int k =>
        obtain ⟨hz, e⟩ := ite_some e
        cases e
        simp only [Bool.and_eq_true, decide_eq_true_eq] at hz
        obtain ⟨⟨z1, z2⟩, z3⟩ := hz
        have hl : _ := okL_le z1
        rw [← ra.length] at hl
        exact op_rep pins s σ H _ _ v u Q I rx ry ⟨_, k, _, rfl, rfl, sG _ _ ha, by omega, by omega, Nat.le_of_lt hl, fun p np => q _ _ (svn_lst sG (ra.rep k.toNat) np)⟩
      | _ => cases e
    | tup ha ra =>
      cases hy with
      | int k =>
        obtain ⟨hz, e⟩ := ite_some e
        cases e
        simp only [Bool.and_eq_true, decide_eq_true_eq] at hz
        obtain ⟨⟨⟨z1, z2⟩, z3⟩, z4⟩ := hz
        have hl := ra.length
        refine op_repA pins s σ H _ _ v u Q I rx ry ⟨_, k, _, rfl, rfl, (ha.mono sG).sq, fun e1 => ?_, z2, z1, by omega, fun e1 => ?_, fun _ p o np hd => q _ _ (svn_tup sG (ra.rep k.toNat) np hd)⟩
        · rw [e1] at hl
          rw [← hl] at z3
          exact absurd z3 (by simp)
        · subst e1
          have e2 : ∀ ds : List D, repD ds (1 : Int).toNat = ds := fun ds => by
            show (List.replicate 1 ds).flatten = ds
            simp
          rw [e2] at q
          exact q _ _ (svn_old sG (.tup ha ra))
      | _ => cases e
    | _ => cases e
  | fdiv =>
    cases hx with
    | int i =>
      cases hy with
      | int j =>
        obtain ⟨hz, e⟩ := ite_some e
        cases e
        simp only [Bool.and_eq_true, decide_eq_true_eq] at hz
        exact op_fdivW pins s σ H _ _ v u Q I rx ry ⟨i, j, rfl, rfl, ⟨hz.1, big_log hz.2⟩, q _ _ (svn_int (s := sG) _)⟩
      | _ => cases e
    | _ => cases e
  | mod =>
    cases hx with
    | int i =>
      cases hy with
      | int j =>
        obtain ⟨hz, e⟩ := ite_some e
        cases e
        exact op_mod pins s σ H _ _ v u Q I rx ry ⟨i, j, rfl, rfl, of_decide_eq_true hz, q _ _ (svn_int (s := sG) _)⟩
      | _ => cases e
    | _ => cases e
  | pow =>
    cases hx with
    | int i =>
      cases hy with
      | int j =>
        obtain ⟨hz, e⟩ := ite_some e
        cases e
        simp only [Bool.and_eq_true, decide_eq_true_eq] at hz
        exact op_pow pins s σ H _ _ v u Q I rx ry ⟨i, j, rfl, rfl, ⟨hz.1.1, hz.1.2, hz.2⟩, q _ _ (svn_int (s := sG) _)⟩
      | _ => cases e
    | _ => cases e
end
end DP

/-! comparisons, subscripts, slices, built-ins, by values -/
namespace DP
open PySem PySem.Spec PyProof.Rows L2

/-! ### comparisons -/
def cmO : Cm → CmpOp
  | .eq => .Eq
  | .ne => .NotEq
  | .lt => .Lt
  | .le => .LtE
  | .gt => .Gt
  | .ge => .GtE
  | .isin => .In
  | .notin => .NotIn
  | .is_ => .Is
  | .nis => .IsNot
def rCm (o : Cm) : R2 := fun x y H Q => ∃ G dx dy b, Same G H ∧ Dr G x dx ∧ RdR G H y dy ∧ cmp2 o dx dy = some b ∧ Q (.bl b) H
theorem RdR.dp {K : PySem.W.Frag} {G H : Hp} (s : Same G H) {d : D} {v : V} (h : RdR G H v d) (e : d.canLay0 = true) : Dp K H v d := by
  rcases h with h | ⟨a, xs, ds, rfl, ha, ra, rfl⟩
  · exact h.dp s e
  · exact .lst (SqL.of ha) (Drs.dp s ra (by simpa [PyData.canLay0] using e))
theorem shp_can {d : D} (h : shp d = true) : d.canLay0 = true := SeqAt.canLay_of_shaped h
theorem flat_v {G : Hp} {x : V} {d : D} (h : Dr G x d) (f : flatD d = true) : flatV x = true := by
  cases h with
  | non => rfl
  | bl _ => rfl
  | int _ => rfl
  | str _ => rfl
  | lst _ _ => cases f
  | tup _ _ => cases f
  | scr _ _ => cases f
  | dc0 _ => cases f
  | pr _ _ => cases f
theorem flat_vs {G : Hp} : ∀ {xs : List V} {ds : List D}, Drs G xs ds → ds.all flatD = true → xs.all flatV = true
  | _, _, .nil, _ => rfl
  | _, _, .cons h r, f => by
    rw [List.all_cons, Bool.and_eq_true] at f ⊢
    exact ⟨flat_v h f.1, flat_vs r f.2⟩
theorem eqv_flat {G : Hp} {x y : V} {dx dy : D} (hx : Dr G x dx) (hy : Dr G y dy) (fx : flatD dx = true) (fy : flatD dy = true) : eqV y x = PyData.eqv dy dx := by
  cases hy with
  | lst _ _ => cases fy
  | tup _ _ => cases fy
  | scr _ _ => cases fy
  | dc0 _ => cases fy
  | pr _ _ => cases fy
  | _ =>
    cases hx with
    | lst _ _ => cases fx
    | tup _ _ => cases fx
    | scr _ _ => cases fx
    | dc0 _ => cases fx
    | pr _ _ => cases fx
    | _ => simp [eqV, PyData.eqv]
theorem any_flat {G : Hp} {x : V} {dx : D} (hx : Dr G x dx) (fx : flatD dx = true) : ∀ {xs : List V} {ds : List D}, Drs G xs ds → ds.all flatD = true → inV x xs = ds.any fun z => PyData.eqv z dx
  | _, _, .nil, _ => rfl
  | y :: xs, d :: ds, .cons h r, f => by
    rw [List.all_cons, Bool.and_eq_true] at f
    have ih := any_flat hx fx r f.2
    unfold inV at ih ⊢
    rw [List.any_cons, List.any_cons, eqv_flat hx h fx f.1, ih]
theorem cmp_eq {dx dy : D} {b : Bool} (e : cmp2 .eq dx dy = some b) : (∃ i j, dx = .int i ∧ dy = .int j ∧ b = decide (i = j)) ∨ (if (shp dx && shp dy) = true then some (PyData.eqv dx dy) else none) = some b := by
  cases dx <;> cases dy <;> first | exact .inl ⟨_, _, rfl, rfl, (Option.some.inj e).symm⟩ | exact .inr e
theorem cmp_ne {dx dy : D} {b : Bool} (e : cmp2 .ne dx dy = some b) : (∃ i j, dx = .int i ∧ dy = .int j ∧ b = !decide (i = j)) ∨ (if (shp dx && shp dy) = true then some (!PyData.eqv dx dy) else none) = some b := by
  cases dx <;> cases dy <;> first | exact .inl ⟨_, _, rfl, rfl, (Option.some.inj e).symm⟩ | exact .inr e
theorem ob_some {α β : Type} {x : Option α} {f : α → Option β} {b : β} (h : ob x f = some b) : ∃ a, x = some a ∧ f a = some b := by
  cases x with
  | none => cases h
  | some a => exact ⟨a, rfl, h⟩
/-- what has items -/
theorem items_of {G H : Hp} {K : PySem.W.Frag} {x : V} {d : D} {ds : List D} (sG : Same G H) (h : RdR G H x d) (e : itemsD d = some ds) : ∃ a xs, x = .ref a ∧ Drs G xs ds ∧ (SqL K H a xs ∨ SqT K H a xs) := by
  rcases h with h | ⟨a, xs, es, rfl, ha, ra, rfl⟩
  · cases h with
    | lst ha ra => cases e; exact ⟨_, _, rfl, ra, .inl (SqL.of (sG _ _ ha))⟩
    | tup ha ra => cases e; exact ⟨_, _, rfl, ra, .inr ((ha.mono sG).sq)⟩
    | scr ns ha => cases e; exact ⟨_, _, rfl, Drs.ints ns, .inl (.inl (.inr ⟨_, sG _ _ ha⟩))⟩
    | _ => cases e
  · cases e
    exact ⟨a, xs, rfl, ra, .inl (SqL.of ha)⟩
theorem seq_items {d : D} {ds : List D} (e : seqD d = some ds) : itemsD d = some ds := by
  cases d <;> first | exact e | cases e
section
variable {X : Cx}
theorem eq_gen (hu : X.A.units + 64 < cLine) {pins : List (Addr × Obj)} {s : Shared} {σ : L2.St} {H G : Hp} {x y : V} {v u : Value} {Q : VK} {dx dy : D} {b : Bool} (I : Inv X pins σ H s) (rx : RelV x v) (ry : RelV y u) (sG : Same G H) (hx : Dr G x dx) (hy : RdR G H y dy)
    (e : (if (shp dx && shp dy) = true then some (PyData.eqv dx dy) else none) = some b) (q : Q (.bl b) H) : wpAny (model X.prog X.w) X.A (compareOp .Eq v u) (EP X pins σ Q) X.xe s := by
  obtain ⟨hz, e⟩ := ite_some e
  subst e
  rw [Bool.and_eq_true] at hz
  exact op_eqD hu pins s σ H x y v u Q I rx ry ⟨dx, dy, hx.dp sG (shp_can hz.1), hy.dp sG (shp_can hz.2), hz.1, hz.2, q⟩
/-- a reading compared with [] -/
def rCe : R2 := fun x y H Q => ∃ G dx a b, Same G H ∧ RdR G H x dx ∧ y = .ref a ∧ H a = some (.lst []) ∧ cmp2 .eq dx (.list []) = some b ∧ Q (.bl b) H
theorem ce_ok (hu : X.A.units + 65 < cLine) : OpR X (compareOp .Eq) rCe := by
  intro pins s σ H x y v u Q I rx ry ⟨G, dx, a, b, sG, hx, ey, ha, e, q⟩
  subst ey
  rcases cmp_eq e with ⟨i, j, _, ez, _⟩ | e
  · cases ez
  · obtain ⟨hz, e⟩ := ite_some e
    subst e
    rw [Bool.and_eq_true] at hz
    exact op_eqD (by omega) pins s σ H x _ v u Q I rx ry ⟨dx, .list [], hx.dp sG (shp_can hz.1), .lst (SqL.of ha) .nil, hz.1, hz.2, q⟩
theorem ne_gen (hu : X.A.units + 64 < cLine) {pins : List (Addr × Obj)} {s : Shared} {σ : L2.St} {H G : Hp} {x y : V} {v u : Value} {Q : VK} {dx dy : D} {b : Bool} (I : Inv X pins σ H s) (rx : RelV x v) (ry : RelV y u) (sG : Same G H) (hx : Dr G x dx) (hy : RdR G H y dy)
    (e : (if (shp dx && shp dy) = true then some (!PyData.eqv dx dy) else none) = some b) (q : Q (.bl b) H) : wpAny (model X.prog X.w) X.A (compareOp .NotEq v u) (EP X pins σ Q) X.xe s := by
  obtain ⟨hz, e⟩ := ite_some e
  subst e
  rw [Bool.and_eq_true] at hz
  exact op_neD hu pins s σ H x y v u Q I rx ry ⟨dx, dy, hx.dp sG (shp_can hz.1), hy.dp sG (shp_can hz.2), hz.1, hz.2, q⟩
def rCn : R2 := fun x y H Q => ∃ G dx a b, Same G H ∧ RdR G H x dx ∧ y = .ref a ∧ H a = some (.lst []) ∧ cmp2 .ne dx (.list []) = some b ∧ Q (.bl b) H
theorem cn_ok (hu : X.A.units + 65 < cLine) : OpR X (compareOp .NotEq) rCn := by
  intro pins s σ H x y v u Q I rx ry ⟨G, dx, a, b, sG, hx, ey, ha, e, q⟩
  subst ey
  rcases cmp_ne e with ⟨i, j, _, ez, _⟩ | e
  · cases ez
  · obtain ⟨hz, e⟩ := ite_some e
    subst e
    rw [Bool.and_eq_true] at hz
    exact op_neD (by omega) pins s σ H x _ v u Q I rx ry ⟨dx, .list [], hx.dp sG (shp_can hz.1), .lst (SqL.of ha) .nil, hz.1, hz.2, q⟩
theorem ltT {xs ys : List D} {b : Bool} (e : cmp2 .lt (.tuple xs) (.tuple ys) = some b) : (match intsD xs, intsD ys with
    | some ns, some ms => some (HT.lexLt ns ms)
    | _, _ => if (shp (.tuple xs) && shp (.tuple ys) && PySem.W.alike (.tuple xs) (.tuple ys)) = true then some (ltD (.tuple xs) (.tuple ys)) else none) = some b := e
/-- two tuples by their order -/
theorem ord_gen {op : CmpOp} {xs ys : List D} {k : Bool} (hop : ∀ v u : Value, compareOp op v u = richCompare op v u) (hu : X.A.units + 65 < cLine) {pins : List (Addr × Obj)} {s : Shared} {σ : L2.St} {H G : Hp} {x y : V} {v u : Value} {Q : VK} (I : Inv X pins σ H s) (rx : RelV x v) (ry : RelV y u) (sG : Same G H) (hx : Dr G x (.tuple xs)) (hy : Dr G y (.tuple ys))
    (hz : (shp (.tuple xs) && shp (.tuple ys) && PySem.W.alike (.tuple xs) (.tuple ys)) = true) (rc : ∀ as bs, Reads s.heap v (.tuple xs) as → Reads s.heap u (.tuple ys) bs → PySem.W.alike (.tuple xs) (.tuple ys) = true → X.A.units + min (PyData.tuple xs).depth (PyData.tuple ys).depth < cLine → SeqAt.RcOp op X.A s v u k) (q : Q (.bl k) H) : wpAny (model X.prog X.w) X.A (compareOp op v u) (EP X pins σ Q) X.xe s := by
  rw [Bool.and_eq_true, Bool.and_eq_true] at hz
  obtain ⟨as, r1⟩ := Dp.reads I _ x v (hx.dp sG (shp_can hz.1.1)) rx
  obtain ⟨bs, r2⟩ := Dp.reads I _ y u (hy.dp sG (shp_can hz.1.2)) ry
  rw [hop]
  exact rc as bs r1 r2 hz.2 (SeqAt.room_of_shaped hz.1.1 (by omega)) X.prog X.w X.xe (EP X pins σ Q) ⟨.bl k, H, I, rfl, q⟩
theorem lt_gen {xs ys : List D} {b : Bool} (hu : X.A.units + 65 < cLine) {pins : List (Addr × Obj)} {s : Shared} {σ : L2.St} {H G : Hp} {x y : V} {v u : Value} {Q : VK} (I : Inv X pins σ H s) (rx : RelV x v) (ry : RelV y u) (sG : Same G H) (hx : Dr G x (.tuple xs)) (hy : Dr G y (.tuple ys))
    (e : (if (shp (.tuple xs) && shp (.tuple ys) && PySem.W.alike (.tuple xs) (.tuple ys)) = true then some (ltD (.tuple xs) (.tuple ys)) else none) = some b) (q : Q (.bl b) H) : wpAny (model X.prog X.w) X.A (compareOp .Lt v u) (EP X pins σ Q) X.xe s := by
  obtain ⟨hz, e⟩ := ite_some e
  subst e
  exact ord_gen (fun _ _ => rfl) hu I rx ry sG hx hy hz (fun as bs r1 r2 al hr => PySem.W.rcLt_alike _ _ _ _ _ _ _ _ r1 r2 al (fun z => by cases z) hr) q
theorem gt_gen {xs ys : List D} {b : Bool} (hu : X.A.units + 65 < cLine) {pins : List (Addr × Obj)} {s : Shared} {σ : L2.St} {H G : Hp} {x y : V} {v u : Value} {Q : VK} (I : Inv X pins σ H s) (rx : RelV x v) (ry : RelV y u) (sG : Same G H) (hx : Dr G x (.tuple xs)) (hy : Dr G y (.tuple ys))
    (e : (if (shp (.tuple xs) && shp (.tuple ys) && PySem.W.alike (.tuple xs) (.tuple ys)) = true then some (ltD (.tuple ys) (.tuple xs)) else none) = some b) (q : Q (.bl b) H) : wpAny (model X.prog X.w) X.A (compareOp .Gt v u) (EP X pins σ Q) X.xe s := by
  obtain ⟨hz, e⟩ := ite_some e
  subst e
  exact ord_gen (fun _ _ => rfl) hu I rx ry sG hx hy hz (fun as bs r1 r2 al hr => PySem.W.rcGt_alike _ _ _ _ _ _ _ _ r1 r2 al (fun z => by cases z) hr) q
theorem le_gen {xs ys : List D} {b : Bool} (hu : X.A.units + 65 < cLine) {pins : List (Addr × Obj)} {s : Shared} {σ : L2.St} {H G : Hp} {x y : V} {v u : Value} {Q : VK} (I : Inv X pins σ H s) (rx : RelV x v) (ry : RelV y u) (sG : Same G H) (hx : Dr G x (.tuple xs)) (hy : Dr G y (.tuple ys))
    (e : (if (shp (.tuple xs) && shp (.tuple ys) && PySem.W.alike (.tuple xs) (.tuple ys)) = true then some (!ltD (.tuple ys) (.tuple xs)) else none) = some b) (q : Q (.bl b) H) : wpAny (model X.prog X.w) X.A (compareOp .LtE v u) (EP X pins σ Q) X.xe s := by
  obtain ⟨hz, e⟩ := ite_some e
  subst e
  exact ord_gen (fun _ _ => rfl) hu I rx ry sG hx hy hz (fun as bs r1 r2 al hr => PySem.W.rcLe_alike _ _ _ _ _ _ _ _ r1 r2 al (fun z => by cases z) hr) q
theorem ite_if {α : Type} {p : Prop} [Decidable p] {x : Option α} {b : α} (h : (if p then x else none) = some b) : p ∧ x = some b := by
  by_cases c : p
  · rw [if_pos c] at h; exact ⟨c, h⟩
  · rw [if_neg c] at h; cases h
theorem sign_is {y : Str} {c : Nat} (e : signTx y = some c) : y = ⟨#[c]⟩ := by
  unfold signTx at e
  split at e
  · next k h =>
    cases e
    obtain ⟨cps⟩ := y
    have h : cps.toList = [c] := h
    have : cps = #[c] := by rw [← Array.toArray_toList (xs := cps), h]
    rw [this]
  · cases e
theorem cm_ok (hu : X.A.units + 65 < cLine) (o : Cm) : OpR X (compareOp (cmO o)) (rCm o) := by
  intro pins s σ H x y v u Q I rx ry h
  obtain ⟨G, dx, dy, b, sG, hx, hy, e, q⟩ := h
  have hyD : RdR G H y dy := hy
  rcases hy with hy | ⟨a, xs, ds, rfl, ha, ra, rfl⟩
  rotate_left
  · cases o with
    | eq => exact eq_gen (by omega) I rx ry sG hx hyD (by cases dx <;> exact e) q
    | ne => exact ne_gen (by omega) I rx ry sG hx hyD (by cases dx <;> exact e) q
    | isin =>
      have e : (if (shp dx && shp (.list ds)) = true then some (ds.any fun z => PyData.eqv z dx) else none) = some b := by cases dx <;> exact e
      obtain ⟨hz, e⟩ := ite_some e
      subst e
      rw [Bool.and_eq_true] at hz
      exact op_inD hu pins s σ H x _ v u Q I rx ry ⟨dx, ds, hx.dp sG (shp_can hz.1), hyD.dp sG (shp_can hz.2), hz.1, hz.2, q⟩
    | notin =>
      have e : (if (shp dx && shp (.list ds)) = true then some (!ds.any fun z => PyData.eqv z dx) else none) = some b := by cases dx <;> exact e
      obtain ⟨hz, e⟩ := ite_some e
      subst e
      rw [Bool.and_eq_true] at hz
      exact op_notInD hu pins s σ H x _ v u Q I rx ry ⟨dx, ds, hx.dp sG (shp_can hz.1), hyD.dp sG (shp_can hz.2), hz.1, hz.2, q⟩
    | _ => cases dx <;> cases e
  cases o with
  | eq =>
    rcases cmp_eq e with ⟨i, j, rfl, rfl, rfl⟩ | e
    · cases hx
      cases hy
      exact op_eq pins s σ H _ _ v u Q I rx ry ⟨rfl, by rw [show decide (V.int i = V.int j) = decide (i = j) from by by_cases z : i = j <;> simp [z]]; exact q⟩
    · exact eq_gen (by omega) I rx ry sG hx hyD e q
  | ne =>
    rcases cmp_ne e with ⟨i, j, rfl, rfl, rfl⟩ | e
    · cases hx
      cases hy
      exact op_ne pins s σ H _ _ v u Q I rx ry ⟨rfl, by rw [show decide (V.int i = V.int j) = decide (i = j) from by by_cases z : i = j <;> simp [z]]; exact q⟩
    · exact ne_gen (by omega) I rx ry sG hx hyD e q
  | lt =>
    cases hx with
    | int i =>
      cases hy with
      | int j => cases e; exact op_lt pins s σ H _ _ v u Q I rx ry ⟨i, j, rfl, rfl, q⟩
      | _ => cases e
    | @tup a xs ds ha ra =>
      cases hy with
      | @tup a2 ys es hb rb =>
        cases e1 : intsD ds with
        | some ns =>
          cases e2 : intsD es with
          | some ms =>
            have e : some (HT.lexLt ns ms) = some b := by
              have := ltT e
              rw [e1, e2] at this
              exact this
            cases e
            obtain ⟨rfl, rfl⟩ := Drs.ints_of ra e1
            obtain ⟨rfl, rfl⟩ := Drs.ints_of rb e2
            exact op_ltT (by omega) pins s σ H _ _ v u Q I rx ry ⟨_, _, ns, ms, rfl, rfl, (ha.mono sG).sq, (hb.mono sG).sq, q⟩
          | none => exact lt_gen hu I rx ry sG (.tup ha ra) (.tup hb rb) (by have := ltT e; rw [e1, e2] at this; exact this) q
        | none => exact lt_gen hu I rx ry sG (.tup ha ra) (.tup hb rb) (by have := ltT e; rw [e1] at this; exact this) q
      | _ => cases e
    | _ => cases e
  | le =>
    cases hx with
    | int i =>
      cases hy with
      | int j => cases e; exact op_le pins s σ H _ _ v u Q I rx ry ⟨i, j, rfl, rfl, q⟩
      | _ => cases e
    | @tup a xs ds ha ra =>
      cases hy with
      | @tup a2 ys es hb rb => exact le_gen hu I rx ry sG (.tup ha ra) (.tup hb rb) e q
      | _ => cases e
    | _ => cases e
  | gt =>
    cases hx with
    | int i =>
      cases hy with
      | int j => cases e; exact op_gt pins s σ H _ _ v u Q I rx ry ⟨i, j, rfl, rfl, q⟩
      | _ => cases e
    | @tup a xs ds ha ra =>
      cases hy with
      | @tup a2 ys es hb rb => exact gt_gen hu I rx ry sG (.tup ha ra) (.tup hb rb) e q
      | _ => cases e
    | _ => cases e
  | ge =>
    cases hx with
    | int i =>
      cases hy with
      | int j => cases e; exact op_ge pins s σ H _ _ v u Q I rx ry ⟨i, j, rfl, rfl, q⟩
      | _ => cases e
    | _ => cases e
  | is_ =>
    cases hx with
    | bl i =>
      cases hy with
      | bl j => cases e; exact op_isBl pins s σ H _ _ v u Q I rx ry ⟨i, j, rfl, rfl, q⟩
      | _ => cases e
    | _ => cases e
  | nis =>
    cases hx with
    | bl i =>
      cases hy with
      | bl j => cases e; exact op_notBl pins s σ H _ _ v u Q I rx ry ⟨i, j, rfl, rfl, q⟩
      | _ => cases e
    | _ => cases e
  | isin =>
    cases hy with
    | @lst a ys ds ha ra =>
      have e : (if (shp dx && shp (.list ds)) = true then some (ds.any fun z => PyData.eqv z dx) else none) = some b := by cases dx <;> exact e
      obtain ⟨hz, e⟩ := ite_some e
      subst e
      rw [Bool.and_eq_true] at hz
      exact op_inD hu pins s σ H _ _ v u Q I rx ry ⟨dx, ds, hx.dp sG (shp_can hz.1), Dr.dp sG (.lst ha ra) (shp_can hz.2), hz.1, hz.2, q⟩
    | @tup a ys ds ha ra =>
      have e : (if (flatD dx && ds.all flatD) = true then some (ds.any fun z => PyData.eqv z dx) else none) = some b := by cases dx <;> exact e
      obtain ⟨hz, e⟩ := ite_some e
      subst e
      rw [Bool.and_eq_true] at hz
      exact op_in_seq pins s σ H _ _ v u Q I rx ry ⟨_, _, rfl, .inr ((ha.mono sG).sq), flat_v hx hz.1, flat_vs ra hz.2, by rw [if_neg Bool.false_ne_true, any_flat hx hz.1 ra hz.2]; exact q⟩
    | str z =>
      cases hx with
      | str y =>
        obtain ⟨c, e1, e2⟩ := ob_some (show (ob (signTx y) fun c => some (decide (c ∈ z.cps.toList))) = some b from e)
        cases e2
        obtain rfl := sign_is e1
        exact op_in_sign pins s σ H _ _ v u Q I rx ry ⟨c, z, rfl, rfl, q⟩
      | _ => cases e
    | _ => cases dx <;> cases e
  | notin =>
    cases hy with
    | @lst a ys ds ha ra =>
      have e : (if (shp dx && shp (.list ds)) = true then some (!ds.any fun z => PyData.eqv z dx) else none) = some b := by cases dx <;> exact e
      obtain ⟨hz, e⟩ := ite_some e
      subst e
      rw [Bool.and_eq_true] at hz
      exact op_notInD hu pins s σ H _ _ v u Q I rx ry ⟨dx, ds, hx.dp sG (shp_can hz.1), Dr.dp sG (.lst ha ra) (shp_can hz.2), hz.1, hz.2, q⟩
    | @tup a ys ds ha ra =>
      have e : (if (flatD dx && ds.all flatD) = true then some (!ds.any fun z => PyData.eqv z dx) else none) = some b := by cases dx <;> exact e
      obtain ⟨hz, e⟩ := ite_some e
      subst e
      rw [Bool.and_eq_true] at hz
      exact op_notIn_seq pins s σ H _ _ v u Q I rx ry ⟨_, _, rfl, .inr ((ha.mono sG).sq), flat_v hx hz.1, flat_vs ra hz.2, by rw [if_pos rfl, any_flat hx hz.1 ra hz.2]; exact q⟩
    | str z =>
      cases hx with
      | str y =>
        obtain ⟨c, e1, e2⟩ := ob_some (show (ob (signTx y) fun c => some (!decide (c ∈ z.cps.toList))) = some b from e)
        cases e2
        obtain rfl := sign_is e1
        exact op_notIn_sign pins s σ H _ _ v u Q I rx ry ⟨c, z, rfl, rfl, q⟩
      | _ => cases e
    | _ => cases dx <;> cases e

/-! ### subscripts, slices -/
theorem Drs.atI {G : Hp} {xs : List V} {ds : List D} {i : Int} {d : D} (r : Drs G xs ds) (h : ixD ds i = some d) : ∃ v, atI xs i = some v ∧ Dr G v d := by
  unfold ixD L2.atI at h
  unfold L2.atI
  rw [r.length]
  cases e : ixN ds.length i with
  | none => rw [e] at h; cases h
  | some n =>
    rw [e] at h
    exact r.getD h
theorem Drs.cut {G : Hp} {xs : List V} {ds : List D} (r : Drs G xs ds) (lo hi : Option Int) : Drs G (cutV xs lo hi) (cutD ds lo hi) := by
  unfold cutV cutD
  rw [r.length]
  exact (r.drop _).take _
/-- x read as dx -/
def rIdx (K : PySem.W.Frag) : R2 := fun x y H Q => ∃ G dx dy d, Same G H ∧ RdR G H x dx ∧ Dr G y dy ∧ idx2 dx dy = some d ∧ ∀ v, Dr G v d → Q v H
theorem idx_ok : IxR X (rIdx X.K) := by
  intro value slice pins s σ H x y v u Q I rx ry h hs
  obtain ⟨G, dx, dy, d, sG, hx, hy, e, q⟩ := h
  cases hy with
  | int i =>
    have gen : (ob (itemsD dx) fun ds => ixD ds i) = some d → wpAny (model X.prog X.w) X.A (subscriptTail value slice v u) (EP X pins σ Q) X.xe s := fun e => by
      obtain ⟨ds, e1, e2⟩ := ob_some e
      obtain ⟨a, xs, rfl, ra, hS⟩ := items_of (K := X.K) sG hx e1
      obtain ⟨w, h1, h2⟩ := ra.atI e2
      refine ix_seq value slice pins s σ H _ _ v u Q I rx ry ?_ hs
      rcases hS with hS | hS
      · exact .inl ⟨_, _, i, w, rfl, rfl, hS, h1, q w h2⟩
      · exact .inr (.inl ⟨_, _, i, w, rfl, rfl, hS, h1, q w h2⟩)
    rcases hx with hx | hx
    · cases hx with
      | str z =>
        obtain ⟨y2, e1, e2⟩ := ob_some (show (ob (idxT z i) fun y => some (PyData.str y)) = some d from e)
        cases e2
        unfold idxT at e1
        obtain ⟨hz, e1⟩ := ite_if e1
        obtain ⟨c, e3, e4⟩ := ob_some e1
        cases e4
        have := okL_lt hz
        have := sizeLine_eq
        exact ix_str value slice pins s σ H _ _ v u Q I rx ry ⟨z, i, c, rfl, rfl, by omega, e3, q _ (.str _)⟩ hs
      | _ => exact gen e
    · obtain ⟨a, xs, ds, _, _, _, rfl⟩ := id hx
      exact gen e
  | _ => cases e
def rSli (lo hi : Option Int) : V → Hp → VK → Prop := fun x H Q => ∃ G dx sv, Same G H ∧ RdR G H x dx ∧ slice3 lo hi dx = some sv ∧ ∀ v H', SvN G H v sv H' → Q v H'
theorem sli_ok : SlR X (fun x lo hi H Q => rSli lo hi x H Q) := by
  intro pins s σ H x v vl vu lo hi sl Q I rx hs pl pu h
  obtain ⟨G, dx, sv, sG, hx, e, q⟩ := h
  rcases hx with hx | ⟨a, xs, ds, rfl, ha, ra, rfl⟩
  · cases hx with
    | lst ha ra =>
      cases e
      exact sl_list pins s σ H _ v vl vu lo hi sl Q I rx hs pl pu ⟨_, _, rfl, SqL.of (sG _ _ ha), fun p np => q _ _ (svn_lst sG (ra.cut lo hi) np)⟩
    | @tup a xs ds ha ra =>
      cases e
      refine sl_tupF pins s σ H _ v vl vu lo hi sl Q I rx hs pl pu ⟨a, xs, rfl, (ha.mono sG).sq, fun hw => q _ _ (svn_old sG ?_), fun p o np hd => q _ _ (svn_tup sG (ra.cut lo hi) np hd)⟩
      have e2 : cutD ds lo hi = ds := by
        unfold cutD
        rw [← ra.length, hw.1, hw.2]
        simp [ra.length]
      rw [e2]
      exact .tup ha ra
    | str z =>
      obtain ⟨hz, e⟩ := ite_some (show (if okL z.length = true then some (SV.val (.str (L2.cutS z lo hi))) else none) = some sv from e)
      cases e
      have := okL_lt hz
      have := sizeLine_eq
      exact sl_str pins s σ H _ v vl vu lo hi sl Q I rx hs pl pu ⟨z, rfl, by omega, q _ _ (svn_old sG (.str _))⟩
    | _ => cases e
  · cases e
    exact sl_list pins s σ H _ v vl vu lo hi sl Q I rx hs pl pu ⟨_, _, rfl, SqL.of ha, fun p np => q _ _ (svn_lst sG (ra.cut lo hi) np)⟩

/-! ### a list's item by value -/
theorem get_list : PGet X (rIxL X.K) := by
  intro pins s σ H o i ov iv Q I ro ri h
  obtain ⟨p, xs, k, v, rfl, rfl, hS, hv, q⟩ := h
  cases ro
  obtain ⟨t, rfl⟩ := ri
  obtain ⟨its, r, pl, hz⟩ := I.list hS
  obtain ⟨j, h1, h2, h3, h4, h5⟩ := atI_get hv
  obtain ⟨u, hu, ru⟩ := r.get h2
  have hn := line63
  have hl := r.length
  have fin : EP X pins σ Q u s := ⟨v, H, I, ru, q⟩
  by_cases h0 : 0 ≤ k
  · have hj : k.toNat = j := by
      rw [seqIndex_of h0 h5] at h1
      exact Option.some.inj h1
    exact wpAny_getItem_list pl.isList h0 (by omega) (by rw [hj]; simpa using hu) fin
  · have hj : (k + (its.toArray.size : Int)).toNat = j := by
      rw [seqIndex_neg (by omega) h4] at h1
      rw [List.size_toArray, ← hl]
      exact Option.some.inj h1
    exact wpAny_getItem_list_neg pl.isList (by omega) (by rw [List.size_toArray, ← hl]; omega) (by omega) (by rw [hj]; simpa using hu) fin
end
end DP

/-! built-ins, by values -/
namespace DP
open PySem PySem.Spec PyProof.Rows L2

/-! ### sum, max, min of a tuple of ints -/
section
variable {prog : Program} {w : World} {A : Around} {E : Value → Shared → Prop} {s : Shared} {l : Addr} {its : List Value} {ns : List Int} {Q : Value → Shared → Prop}
theorem iter_tup {items : Array Value} {R : Value → Shared → Prop} (ht : s.heap.IsTuple l items)
    (h : ∀ s2 : Shared, s2 = { s with heap := s.heap.push { cls := .type "tuple_iterator", data := .fields #[.ref l, .int 0 0] } } → (s2.heap.IsTupleIter s.heap.objs.size l 0 ∧ s2.heap.IsTuple l items) → (∀ b ∈ [s.heap.objs.size, l], b < s2.heap.objs.size) → l ≠ s.heap.objs.size → R (.ref s.heap.objs.size) s2) :
    wpAny (model prog w) A (pyIter (.ref l)) R E s := by
  have hlt : l < s.heap.objs.size := by obtain ⟨_, e, _⟩ := ht; exact Heap.lt_size e
  refine wpAny_pyIter_tuple ht (h _ rfl ⟨⟨_, Heap.get?_push_size _ rfl, rfl, rfl⟩, ht.push _⟩ (fun b hb => ?_) (Nat.ne_of_lt hlt))
  show b < (s.heap.push _).objs.size
  rw [Heap.size_push]
  rcases List.mem_cons.mp hb with rfl | hb
  · exact Nat.lt_succ_self _
  · rcases List.mem_cons.mp hb with rfl | hb
    · exact Nat.lt_succ_of_lt hlt
    · cases hb
theorem old_keptT {h' : Heap} (hk : ∀ b o, b ∉ [s.heap.objs.size] → (s.heap.push { cls := .type "tuple_iterator", data := .fields #[.ref l, .int 0 0] }).get? b = some o → h'.get? b = some o) :
    ∀ b o, s.heap.get? b = some o → h'.get? b = some o := fun b o e => by
  refine hk b o (fun hm => ?_) (Heap.get?_push_of_some _ e)
  rcases List.mem_cons.mp hm with e1 | hm
  · exact absurd (e1 ▸ Heap.lt_size e) (Nat.lt_irrefl _)
  · cases hm
theorem sum_rawT (hh : A.handled = none) (hl : s.heap.IsTuple l its.toArray) (hi : IntsAre its ns)
    (h : ∀ h' tk t', (∀ b o, s.heap.get? b = some o → h'.get? b = some o) → Q (.int ns.sum t') { s with heap := h', toks := tk }) : wpAny (model prog w) A (call (.builtin "sum") [.ref l]) Q E s := by
  obtain ⟨xs, e⟩ := hi.allInts.items
  have hn : numsOf (intItems xs).toList = ns := by rw [← e]; exact hi.numsOf
  rw [nums_intItems] at hn
  rw [e] at hl
  refine call_sum_walkG (iter_tup hl fun s2 e2 st hfp hlI => ?_)
  subst e2
  refine ⟨_, _, _, _, _, _, numAt xs, rfl, Walks.tuple (A := A.in1) hh _ l hlI (intItems xs), st, hfp, (fun _ _ => intItems_at), fun h' tk t' hk => ?_⟩
  have := h h' tk t' (old_keptT hk)
  rw [← hn] at this
  rw [preSum_eq, List.take_of_length_le (by simp [intItems])]
  exact this
theorem max_rawT (hh : A.handled = none) (hl : s.heap.IsTuple l its.toArray) (hi : IntsAre its ns) (hne : 0 < ns.length)
    (h : ∀ h' tk M t', (∀ b o, s.heap.get? b = some o → h'.get? b = some o) → M ∈ ns → (∀ a, a ∈ ns → a ≤ M) → Q (.int M t') { s with heap := h', toks := tk }) : wpAny (model prog w) A (call (.builtin "max") [.ref l]) Q E s := by
  obtain ⟨xs, e⟩ := hi.allInts.items
  have hn : numsOf (intItems xs).toList = ns := by rw [← e]; exact hi.numsOf
  rw [nums_intItems] at hn
  subst hn
  rw [e] at hl
  have hsz : 0 < xs.size := by simpa using hne
  refine call_max_walk (iter_tup hl fun s2 e2 st hfp hlI => ?_)
  subst e2
  refine ⟨_, _, _, _, _, _, _, rfl, Walks.tuple (A := A.in1) hh _ l hlI (intItems xs), st, hfp, by simpa [intItems] using hsz, CmpOf.ints_gt (numAt xs) (fun _ _ => intItems_at), fun v h' tk hP hk => ?_⟩
  have hP : (intItems xs)[argBest (fun i j => decide (numAt xs i > numAt xs j)) (xs.size - 1)]? = some v := by simpa [intItems] using hP
  obtain ⟨t, rfl⟩ := intItems_at hP
  obtain ⟨h1, h2⟩ := argBest_gt (numAt xs) (xs.size - 1)
  refine h h' tk _ t (old_keptT hk) ?_ fun a ha => ?_
  · rw [numAt_eq]; exact PySem.getD_mem (by rw [List.length_map, Array.length_toList]; omega)
  · obtain ⟨j, hj, rfl⟩ := mem_getD ha
    rw [List.length_map, Array.length_toList] at hj
    rw [← numAt_eq]; exact h2 j (by omega)
theorem min_rawT (hh : A.handled = none) (hl : s.heap.IsTuple l its.toArray) (hi : IntsAre its ns) (hne : 0 < ns.length)
    (h : ∀ h' tk M t', (∀ b o, s.heap.get? b = some o → h'.get? b = some o) → M ∈ ns → (∀ a, a ∈ ns → M ≤ a) → Q (.int M t') { s with heap := h', toks := tk }) : wpAny (model prog w) A (call (.builtin "min") [.ref l]) Q E s := by
  obtain ⟨xs, e⟩ := hi.allInts.items
  have hn : numsOf (intItems xs).toList = ns := by rw [← e]; exact hi.numsOf
  rw [nums_intItems] at hn
  subst hn
  rw [e] at hl
  have hsz : 0 < xs.size := by simpa using hne
  refine call_min_walk (iter_tup hl fun s2 e2 st hfp hlI => ?_)
  subst e2
  refine ⟨_, _, _, _, _, _, _, rfl, Walks.tuple (A := A.in1) hh _ l hlI (intItems xs), st, hfp, by simpa [intItems] using hsz, CmpOf.ints_lt (numAt xs) (fun _ _ => intItems_at), fun v h' tk hP hk => ?_⟩
  have hP : (intItems xs)[argBest (fun i j => decide (numAt xs i < numAt xs j)) (xs.size - 1)]? = some v := by simpa [intItems] using hP
  obtain ⟨t, rfl⟩ := intItems_at hP
  obtain ⟨h1, h2⟩ := argBest_lt (numAt xs) (xs.size - 1)
  refine h h' tk _ t (old_keptT hk) ?_ fun a ha => ?_
  · rw [numAt_eq]; exact PySem.getD_mem (by rw [List.length_map, Array.length_toList]; omega)
  · obtain ⟨j, hj, rfl⟩ := mem_getD ha
    rw [List.length_map, Array.length_toList] at hj
    rw [← numAt_eq]; exact h2 j (by omega)
end

/-! ### what max, min, sorted are -/
theorem maxI_mem : ∀ (r : List Int) (m : Int), maxI m r ∈ m :: r
  | [], m => List.mem_cons_self
  | x :: r, m => by
    unfold maxI
    by_cases z : m < x
    · rw [if_pos z]
      exact List.mem_cons_of_mem _ (maxI_mem r x)
    · rw [if_neg z]
      rcases List.mem_cons.mp (maxI_mem r m) with e | e
      · rw [e]; exact List.mem_cons_self
      · exact List.mem_cons_of_mem _ (List.mem_cons_of_mem _ e)
theorem maxI_le : ∀ (r : List Int) (m : Int), ∀ y ∈ m :: r, y ≤ maxI m r
  | [], m, y, h => by simp at h; subst h; exact Int.le_refl _
  | x :: r, m, y, h => by
    unfold maxI
    by_cases z : m < x
    · rw [if_pos z]
      have ih := maxI_le r x
      have h0 := ih _ List.mem_cons_self
      rcases List.mem_cons.mp h with e | h
      · subst e; omega
      · exact ih y h
    · rw [if_neg z]
      have ih := maxI_le r m
      have h0 := ih _ List.mem_cons_self
      rcases List.mem_cons.mp h with e | h
      · subst e; omega
      · rcases List.mem_cons.mp h with e | h
        · subst e; omega
        · exact ih y (List.mem_cons_of_mem _ h)
theorem minI_mem : ∀ (r : List Int) (m : Int), minI m r ∈ m :: r
  | [], m => List.mem_cons_self
  | x :: r, m => by
    unfold minI
    by_cases z : x < m
    · rw [if_pos z]
      exact List.mem_cons_of_mem _ (minI_mem r x)
    · rw [if_neg z]
      rcases List.mem_cons.mp (minI_mem r m) with e | e
      · rw [e]; exact List.mem_cons_self
      · exact List.mem_cons_of_mem _ (List.mem_cons_of_mem _ e)
theorem minI_le : ∀ (r : List Int) (m : Int), ∀ y ∈ m :: r, minI m r ≤ y
  | [], m, y, h => by simp at h; subst h; exact Int.le_refl _
  | x :: r, m, y, h => by
    unfold minI
    by_cases z : x < m
    · rw [if_pos z]
      have ih := minI_le r x
      have h0 := ih _ List.mem_cons_self
      rcases List.mem_cons.mp h with e | h
      · subst e; omega
      · exact ih y h
    · rw [if_neg z]
      have ih := minI_le r m
      have h0 := ih _ List.mem_cons_self
      rcases List.mem_cons.mp h with e | h
      · subst e; omega
      · rcases List.mem_cons.mp h with e | h
        · subst e; omega
        · exact ih y (List.mem_cons_of_mem _ h)
theorem insI_perm (x : Int) : ∀ r : List Int, (insI x r).Perm (x :: r)
  | [] => .refl _
  | y :: r => by
    unfold insI
    split
    · exact .refl _
    · exact ((insI_perm x r).cons y).trans (.swap x y r)
theorem sortI_perm : ∀ r : List Int, (sortI r).Perm r
  | [] => .refl _
  | x :: r => (insI_perm x (sortI r)).trans ((sortI_perm r).cons x)
theorem insI_sorted (x : Int) : ∀ r : List Int, r.Pairwise (· ≤ ·) → (insI x r).Pairwise (· ≤ ·)
  | [], _ => by unfold insI; exact List.pairwise_singleton _ _
  | y :: r, h => by
    rw [List.pairwise_cons] at h
    unfold insI
    split
    · next hxy =>
      refine List.pairwise_cons.mpr ⟨fun z hz => ?_, List.pairwise_cons.mpr h⟩
      rcases List.mem_cons.mp hz with e | hz
      · rw [e]; exact hxy
      · exact Int.le_trans hxy (h.1 z hz)
    · next hxy =>
      refine List.pairwise_cons.mpr ⟨fun z hz => ?_, insI_sorted x r h.2⟩
      rcases List.mem_cons.mp ((insI_perm x r).mem_iff.mp hz) with e | hz
      · rw [e]; omega
      · exact h.1 z hz
theorem sortI_sorted : ∀ r : List Int, (sortI r).Pairwise (· ≤ ·)
  | [] => .nil
  | x :: r => insI_sorted x _ (sortI_sorted r)
theorem sortI_one {a r : List Int} (p : a.Perm r) (s : a.Pairwise (· ≤ ·)) : a = sortI r :=
  List.Perm.eq_of_pairwise (fun x y _ _ h1 h2 => Int.le_antisymm h1 h2) s (sortI_sorted r) (p.trans (sortI_perm r).symm)

/-! ### the calls -/
def rB1 (f : B1) : List V → Hp → VK → Prop := fun vs H Q => ∃ x G d sv, vs = [x] ∧ Same G H ∧ RdR G H x d ∧ blt1 f d = some sv ∧ ∀ v H', SvN G H v sv H' → Q v H'
def rB2 (f : B2) : List V → Hp → VK → Prop := fun vs H Q => ∃ x y G dx dy d, vs = [x, y] ∧ Same G H ∧ Dr G x dx ∧ Dr G y dy ∧ blt2 f dx dy = some d ∧ ∀ v, Dr G v d → Q v H
theorem ints_items {G H : Hp} {K : PySem.W.Frag} {x : V} {d : D} {ds : List D} {ns : List Int} (sG : Same G H) (h : RdR G H x d) (e1 : seqD d = some ds) (e2 : intsD ds = some ns) :
    ∃ a, x = .ref a ∧ (SqL K H a (ns.map V.int) ∨ SqT K H a (ns.map V.int)) := by
  obtain ⟨a, xs, rfl, ra, hS⟩ := items_of (K := K) sG h (seq_items e1)
  obtain ⟨e3, _⟩ := ra.ints_of e2
  subst e3
  exact ⟨a, rfl, hS⟩
section
variable {X : Cx}
theorem b1_len : CallR X (.builtin "len") (rB1 .len) := by
  intro pins s σ H vs us Q I r h
  obtain ⟨x, G, d, sv, rfl, sG, hx, e, q⟩ := h
  have gen : (ob (itemsD d) fun ds => some (SV.val (.int ds.length))) = some sv → wpAny (model X.prog X.w) X.A (call (.builtin "len") us) (EP X pins σ Q) X.xe s := fun e => by
    obtain ⟨ds, e1, e2⟩ := ob_some e
    cases e2
    obtain ⟨a, xs, rfl, ra, hS⟩ := items_of (K := X.K) sG hx e1
    exact call_len_seq pins s σ H _ us Q I r ⟨a, xs, rfl, hS, by rw [ra.length]; exact q _ _ (svn_int (s := sG) _)⟩
  rcases hx with hx | hx
  · cases hx with
    | str z =>
      obtain ⟨hz, e⟩ := ite_some (show (if okL z.length = true then some (SV.val (.int z.length)) else none) = some sv from e)
      cases e
      have := okL_lt hz
      have := sizeLine_eq
      exact call_len_str pins s σ H _ us Q I r ⟨z, rfl, by omega, q _ _ (svn_int (s := sG) _)⟩
    | _ => exact gen e
  · obtain ⟨a, xs, ds, _, _, _, rfl⟩ := id hx
    exact gen e
theorem b1_str : CallR X (.type "str") (rB1 .str) := by
  intro pins s σ H vs us Q I r h
  obtain ⟨x, G, d, sv, rfl, sG, hx, e, q⟩ := h
  rcases hx with hx | ⟨a, xs, ds, rfl, ha, ra, rfl⟩
  · cases hx with
    | int i =>
      obtain ⟨hz, e⟩ := ite_if (show (if i.natAbs.log2 < 1920 then some (SV.val (.str (intS i))) else none) = some sv from e)
      cases e
      exact call_str_int pins s σ H _ us Q I r ⟨i, rfl, hz, q _ _ (svn_old sG (.str _))⟩
    | _ => cases e
  · cases e
theorem b1_sum (hc : X.calm = true) : CallR X (.builtin "sum") (rB1 .sum) := by
  intro pins s σ H vs us Q I r h
  obtain ⟨x, G, d, sv, rfl, sG, hx, e, q⟩ := h
  obtain ⟨ds, e1, e⟩ := ob_some (f := fun ds : List D => ob (intsD ds) fun ns => some (SV.val (.int ns.sum))) e
  obtain ⟨ns, e2, e⟩ := ob_some e
  cases e
  obtain ⟨a, rfl, hS⟩ := ints_items (K := X.K) sG hx e1 e2
  rcases hS with hS | hS
  · exact cr_sum hc pins s σ H _ us Q I r ⟨a, ns, rfl, hS, q _ _ (svn_int (s := sG) _)⟩
  · obtain ⟨its, rv, ht, _⟩ := I.tuple hS
    rw [Vals.ref1 r]
    exact sum_rawT (I.ok.hd hc) (show s.heap.IsTuple a its.toArray from ht) rv.ints fun h' tk t' hk => ⟨.int _, H, I.kept hk, ⟨_, rfl⟩, q _ _ (svn_int (s := sG) _)⟩
/-! ### data by their order -/
theorem alkD_at {ds : List D} (h : alkD ds = true) : (∀ x ∈ ds, ∀ y ∈ ds, PySem.W.alike x y = true) ∧ (∀ x ∈ ds, x ≠ .none) ∧ ∀ x ∈ ds, shp x = true := by
  unfold alkD at h
  rw [List.all_eq_true] at h
  refine ⟨fun x hx y hy => ?_, fun x hx z => ?_, fun x hx => ?_⟩
  · have := h x hx
    rw [Bool.and_eq_true, List.all_eq_true] at this
    exact this.2 y hy
  · have := h x hx
    subst z
    simp at this
  · have := h x hx
    rw [Bool.and_eq_true, Bool.and_eq_true] at this
    exact this.1.1
theorem lay_all : ∀ {ds : List D}, (∀ x ∈ ds, shp x = true) → PyData.canLayAll0 ds = true ∧ PyData.depthAll ds ≤ 64
  | [], _ => ⟨by simp [PyData.canLayAll0], by simp [PyData.depthAll]⟩
  | d :: ds, h => by
    obtain ⟨h1, h2⟩ := lay_all (ds := ds) fun x hx => h x (List.mem_cons_of_mem _ hx)
    have h3 := h d List.mem_cons_self
    refine ⟨?_, ?_⟩
    · simp only [PyData.canLayAll0, Bool.and_eq_true]
      exact ⟨shp_can h3, h1⟩
    · have := SeqAt.depth_of_shaped h3
      simp only [PyData.depthAll]
      omega
theorem m_seq {K : PySem.W.Frag} {G H : Hp} {x : V} {dx : D} {ds : List D} (sG : Same G H) (hx : RdR G H x dx) (e : seqD dx = some ds) (hz : PyData.canLayAll0 ds = true) : ∃ a xs, x = .ref a ∧ Drs G xs ds ∧ DpAll K H xs ds ∧ (SqL K H a xs ∨ SqT K H a xs) := by
  rcases hx with hx | ⟨a, xs, es, rfl, ha, ra, rfl⟩
  · cases hx with
    | lst ha ra => cases e; exact ⟨_, _, rfl, ra, Drs.dp sG ra hz, .inl (SqL.of (sG _ _ ha))⟩
    | tup ha ra => cases e; exact ⟨_, _, rfl, ra, Drs.dp sG ra hz, .inr ((ha.mono sG).sq)⟩
    | scr ns ha => cases e
    | _ => cases e
  · cases e
    exact ⟨a, xs, rfl, ra, Drs.dp sG ra hz, .inl (SqL.of ha)⟩
theorem valsAt : ∀ {xs : List V} {us : List Value} {i : Nat} {u : Value}, Vals xs us → us[i]? = some u → ∃ x, xs[i]? = some x ∧ RelV x u
  | _, _, _, _, .nil, e => by simp at e
  | _, _, 0, _, .cons h _, e => by simp at e; subst e; exact ⟨_, rfl, h⟩
  | _, _, i + 1, _, .cons _ r, e => by
    obtain ⟨x, h1, h2⟩ := valsAt (i := i) r (by simpa using e)
    exact ⟨x, by simpa using h1, h2⟩
/-- one of the items that reads as a datum alike to it -/
theorem one_item {K : PySem.W.Frag} {pins : List (Addr × Obj)} {s : Shared} {σ : L2.St} {H G : Hp} {X : Cx} (I : Inv X pins σ H s) {xs : List V} {its : List Value} {ds : List D} (rv : Vals xs its) (ra : Drs G xs ds) (hD : DpAll X.K H xs ds) (al : ∀ x ∈ ds, ∀ y ∈ ds, PySem.W.alike x y = true) {i : Nat} {u : Value} {m : D} {h' : Heap} {bs : List Addr}
    (hi : its[i]? = some u) (hk : ∀ b o, s.heap.get? b = some o → h'.get? b = some o) (r : Reads h' u m bs) (hm : m ∈ ds) : ∃ x, RelV x u ∧ Dr G x m := by
  obtain ⟨x, hx, rx⟩ := valsAt rv hi
  obtain ⟨d, hd, hdr⟩ := ra.get hx
  have dp : Dp X.K H x d := by
    have : ∀ {xs : List V} {ds : List D} {i : Nat}, DpAll X.K H xs ds → xs[i]? = some x → ds[i]? = some d → Dp X.K H x d := by
      intro xs
      induction xs with
      | nil => intro ds i _ e; simp at e
      | cons y ys ih =>
        intro ds i hh e1 e2
        cases hh with
        | cons h1 h2 =>
          cases i with
          | zero => simp at e1 e2; subst e1 e2; exact h1
          | succ i => exact ih h2 (by simpa using e1) (by simpa using e2)
    exact this hD hx hd
  obtain ⟨as, r1⟩ := Dp.reads I d x u dp rx
  have e := PySem.W.alike_unique _ _ _ _ _ (al _ (List.mem_of_getElem? hd) _ hm) (PyProof.Rows.Reads.keeps hk r1) r
  subst e
  exact ⟨x, rx, hdr⟩
theorem pickD_mem (f : D → D → Bool) : ∀ (r : List D) (x : D), r.foldl (fun a y => if f a y = true then y else a) x ∈ x :: r
  | [], x => by simp
  | y :: r, x => by
    rw [List.foldl_cons]
    have := pickD_mem f r (if f x y = true then y else x)
    rcases List.mem_cons.mp this with z | z
    · rw [z]
      split <;> simp
    · exact List.mem_cons_of_mem _ (List.mem_cons_of_mem _ z)
theorem max_data (hc : X.calm = true) (hu : X.A.units + 66 < cLine) {pins : List (Addr × Obj)} {s : Shared} {σ : L2.St} {H G : Hp} {x : V} {us : List Value} {Q : VK} {d d0 : D} {dr : List D} (I : Inv X pins σ H s) (r : Vals [x] us) (sG : Same G H) (hx : RdR G H x d) (e1 : seqD d = some (d0 :: dr)) (hz : alkD (d0 :: dr) = true)
    (q : ∀ v H', SvN G H v (.val (PySem.W.maxD d0 dr)) H' → Q v H') : wpAny (model X.prog X.w) X.A (call (.builtin "max") us) (EP X pins σ Q) X.xe s := by
  obtain ⟨al, nn, sh⟩ := alkD_at hz
  obtain ⟨cl, dp⟩ := lay_all sh
  obtain ⟨a, xs, rfl, ra, hD, hS⟩ := m_seq (K := X.K) sG hx e1 cl
  rw [Vals.ref1 r]
  have hm : PySem.W.maxD d0 dr ∈ d0 :: dr := pickD_mem (fun a y => PySem.W.dataLt a y) dr d0
  rcases hS with hS | hS
  · obtain ⟨its, rv, ht, _⟩ := I.list hS
    obtain ⟨as, h4⟩ := Dp.readsAll I _ _ its hD rv
    refine PySem.W.max_list_data (vs := its.toArray) (I.ok.hd hc) ht.isList (by rw [List.toList_toArray]; exact h4) ⟨al, nn⟩ (by omega) fun i v h' tk bs hi rd hk => ?_
    obtain ⟨y, ry, dy⟩ := one_item (K := X.K) I rv ra hD al (by simpa using hi) hk rd hm
    exact ⟨y, H, I.kept hk, ry, q _ _ (svn_old sG dy)⟩
  · obtain ⟨its, rv, ht, _⟩ := I.tuple hS
    obtain ⟨as, h4⟩ := Dp.readsAll I _ _ its hD rv
    refine PySem.W.max_tuple_data (vs := its.toArray) (I.ok.hd hc) (show s.heap.IsTuple a its.toArray from ht) (by rw [List.toList_toArray]; exact h4) ⟨al, nn⟩ (by omega) fun i v h' tk bs hi rd hk => ?_
    obtain ⟨y, ry, dy⟩ := one_item (K := X.K) I rv ra hD al (by simpa using hi) hk rd hm
    exact ⟨y, H, I.kept hk, ry, q _ _ (svn_old sG dy)⟩
theorem min_data (hc : X.calm = true) (hu : X.A.units + 66 < cLine) {pins : List (Addr × Obj)} {s : Shared} {σ : L2.St} {H G : Hp} {x : V} {us : List Value} {Q : VK} {d d0 : D} {dr : List D} (I : Inv X pins σ H s) (r : Vals [x] us) (sG : Same G H) (hx : RdR G H x d) (e1 : seqD d = some (d0 :: dr)) (hz : alkD (d0 :: dr) = true)
    (q : ∀ v H', SvN G H v (.val (PySem.W.minD d0 dr)) H' → Q v H') : wpAny (model X.prog X.w) X.A (call (.builtin "min") us) (EP X pins σ Q) X.xe s := by
  obtain ⟨al, nn, sh⟩ := alkD_at hz
  obtain ⟨cl, dp⟩ := lay_all sh
  obtain ⟨a, xs, rfl, ra, hD, hS⟩ := m_seq (K := X.K) sG hx e1 cl
  rw [Vals.ref1 r]
  have hm : PySem.W.minD d0 dr ∈ d0 :: dr := pickD_mem (fun a y => PySem.W.dataLt y a) dr d0
  rcases hS with hS | hS
  · obtain ⟨its, rv, ht, _⟩ := I.list hS
    obtain ⟨as, h4⟩ := Dp.readsAll I _ _ its hD rv
    refine PySem.W.min_list_data (vs := its.toArray) (I.ok.hd hc) ht.isList (by rw [List.toList_toArray]; exact h4) ⟨al, nn⟩ (by omega) fun i v h' tk bs hi rd hk => ?_
    obtain ⟨y, ry, dy⟩ := one_item (K := X.K) I rv ra hD al (by simpa using hi) hk rd hm
    exact ⟨y, H, I.kept hk, ry, q _ _ (svn_old sG dy)⟩
  · obtain ⟨its, rv, ht, _⟩ := I.tuple hS
    obtain ⟨as, h4⟩ := Dp.readsAll I _ _ its hD rv
    refine PySem.W.min_tuple_data (vs := its.toArray) (I.ok.hd hc) (show s.heap.IsTuple a its.toArray from ht) (by rw [List.toList_toArray]; exact h4) ⟨al, nn⟩ (by omega) fun i v h' tk bs hi rd hk => ?_
    obtain ⟨y, ry, dy⟩ := one_item (K := X.K) I rv ra hD al (by simpa using hi) hk rd hm
    exact ⟨y, H, I.kept hk, ry, q _ _ (svn_old sG dy)⟩
theorem b1_max (hc : X.calm = true) (hu : X.A.units + 66 < cLine) : CallR X (.builtin "max") (rB1 .max) := by
  intro pins s σ H vs us Q I r h
  obtain ⟨x, G, d, sv, rfl, sG, hx, e, q⟩ := h
  obtain ⟨ds, e1, e⟩ := ob_some (f := fun ds : List D => (match intsD ds with | some ns => (match ns with | [] => none | x :: r => some (SV.val (.int (maxI x r)))) | none => (match ds with | [] => none | x :: r => if alkD (x :: r) then some (SV.val (PySem.W.maxD x r)) else none))) e
  cases e2 : intsD ds with
  | none =>
    rw [e2] at e
    cases ds with
    | nil => cases e
    | cons d0 dr =>
      obtain ⟨hz, e⟩ := ite_some (show (if alkD (d0 :: dr) = true then some (SV.val (PySem.W.maxD d0 dr)) else none) = some sv from e)
      subst e
      exact max_data hc hu I r sG hx e1 hz q
  | some ns =>
  rw [e2] at e
  dsimp only at e
  cases ns with
  | nil => cases e
  | cons n0 r0 =>
    cases e
    have one : ∀ m, m ∈ n0 :: r0 → (∀ y, y ∈ n0 :: r0 → y ≤ m) → m = maxI n0 r0 := fun m h1 h2 => Int.le_antisymm (maxI_le r0 n0 m h1) (h2 _ (maxI_mem r0 n0))
    obtain ⟨a, rfl, hS⟩ := ints_items (K := X.K) sG hx e1 e2
    rcases hS with hS | hS
    · exact cr_max hc pins s σ H _ us Q I r ⟨a, n0 :: r0, rfl, hS, Nat.succ_pos _, fun m h1 h2 => by rw [one m h1 h2]; exact q _ _ (svn_int (s := sG) _)⟩
    · obtain ⟨its, rv, ht, _⟩ := I.tuple hS
      rw [Vals.ref1 r]
      exact max_rawT (I.ok.hd hc) (show s.heap.IsTuple a its.toArray from ht) rv.ints (Nat.succ_pos _) fun h' tk m t' hk h1 h2 => ⟨.int m, H, I.kept hk, ⟨_, rfl⟩, by rw [one m h1 h2]; exact q _ _ (svn_int (s := sG) _)⟩
theorem b1_min (hc : X.calm = true) (hu : X.A.units + 66 < cLine) : CallR X (.builtin "min") (rB1 .min) := by
  intro pins s σ H vs us Q I r h
  obtain ⟨x, G, d, sv, rfl, sG, hx, e, q⟩ := h
  obtain ⟨ds, e1, e⟩ := ob_some (f := fun ds : List D => (match intsD ds with | some ns => (match ns with | [] => none | x :: r => some (SV.val (.int (minI x r)))) | none => (match ds with | [] => none | x :: r => if alkD (x :: r) then some (SV.val (PySem.W.minD x r)) else none))) e
  cases e2 : intsD ds with
  | none =>
    rw [e2] at e
    cases ds with
    | nil => cases e
    | cons d0 dr =>
      obtain ⟨hz, e⟩ := ite_some (show (if alkD (d0 :: dr) = true then some (SV.val (PySem.W.minD d0 dr)) else none) = some sv from e)
      subst e
      exact min_data hc hu I r sG hx e1 hz q
  | some ns =>
  rw [e2] at e
  dsimp only at e
  cases ns with
  | nil => cases e
  | cons n0 r0 =>
    cases e
    have one : ∀ m, m ∈ n0 :: r0 → (∀ y, y ∈ n0 :: r0 → m ≤ y) → m = minI n0 r0 := fun m h1 h2 => Int.le_antisymm (h2 _ (minI_mem r0 n0)) (minI_le r0 n0 m h1)
    obtain ⟨a, rfl, hS⟩ := ints_items (K := X.K) sG hx e1 e2
    rcases hS with hS | hS
    · exact cr_min hc pins s σ H _ us Q I r ⟨a, n0 :: r0, rfl, hS, Nat.succ_pos _, fun m h1 h2 => by rw [one m h1 h2]; exact q _ _ (svn_int (s := sG) _)⟩
    · obtain ⟨its, rv, ht, _⟩ := I.tuple hS
      rw [Vals.ref1 r]
      exact min_rawT (I.ok.hd hc) (show s.heap.IsTuple a its.toArray from ht) rv.ints (Nat.succ_pos _) fun h' tk m t' hk h1 h2 => ⟨.int m, H, I.kept hk, ⟨_, rfl⟩, by rw [one m h1 h2]; exact q _ _ (svn_int (s := sG) _)⟩
theorem b1_abs : CallR X (.builtin "abs") (rB1 .abs) := by
  intro pins s σ H vs us Q I r h
  obtain ⟨x, G, d, sv, rfl, sG, hx, e, q⟩ := h
  rcases hx with hx | ⟨a, xs, ds, rfl, ha, ra, rfl⟩
  · cases hx with
    | int i => cases e; exact call_abs pins s σ H _ us Q I r ⟨i, rfl, q _ _ (svn_int (s := sG) _)⟩
    | _ => cases e
  · cases e
theorem b1_int : CallR X (.type "int") (rB1 .int) := by
  intro pins s σ H vs us Q I r h
  obtain ⟨x, G, d, sv, rfl, sG, hx, e, q⟩ := h
  rcases hx with hx | ⟨a, xs, ds, rfl, ha, ra, rfl⟩
  · cases hx with
    | int i => cases e; exact call_int1 pins s σ H _ us Q I r (.inl ⟨i, rfl, q _ _ (svn_int (s := sG) _)⟩)
    | bl b => cases e; exact call_int1 pins s σ H _ us Q I r (.inr ⟨b, rfl, q _ _ (svn_int (s := sG) _)⟩)
    | str z =>
      obtain ⟨hz, e⟩ := ite_if (show (if z.length ≤ 640 then ob (PySem.intText? z) fun n => some (SV.val (.int n)) else none) = some sv from e)
      obtain ⟨n, e1, e2⟩ := ob_some e
      cases e2
      exact call_int_str pins s σ H _ us Q I r ⟨z, n, rfl, e1, hz, q _ _ (svn_int (s := sG) _)⟩
    | _ => cases e
  · cases e
theorem b1_tuple : CallR X (.type "tuple") (rB1 .tuple) := by
  intro pins s σ H vs us Q I r h
  obtain ⟨x, G, d, sv, rfl, sG, hx, e, q⟩ := h
  rcases hx with hx | ⟨a, xs, ds, rfl, ha, ra, rfl⟩
  · cases hx with
    | lst ha ra => cases e; exact call_tupF pins s σ H _ us Q I r ⟨_, _, rfl, .inl ⟨SqL.of (sG _ _ ha), fun l o nl hd => q _ _ (svn_tup sG ra nl hd)⟩⟩
    | tup ha ra => cases e; exact call_tupF pins s σ H _ us Q I r ⟨_, _, rfl, .inr ⟨(ha.mono sG).sq, q _ _ (svn_old sG (.tup ha ra))⟩⟩
    | _ => cases e
  · cases e
    exact call_tupF pins s σ H _ us Q I r ⟨_, _, rfl, .inl ⟨SqL.of ha, fun l o nl hd => q _ _ (svn_tup sG ra nl hd)⟩⟩
theorem vals_signs : ∀ (cs : List Nat) (vs : List Value), vs.length = cs.length → (∀ (j : Nat) (v : Value), vs[j]? = some v → ∃ c u, cs[j]? = some c ∧ v = Value.str ⟨#[c]⟩ u) → Vals (cs.map fun c => V.str ⟨#[c]⟩) vs
  | [], [], _, _ => .nil
  | [], _ :: _, h, _ => by simp at h
  | _ :: _, [], h, _ => by simp at h
  | c :: cs, v :: vs, h, g => by
    obtain ⟨c', u, h1, h2⟩ := g 0 v rfl
    have h1 : c = c' := Option.some.inj h1
    subst h1 h2
    exact .cons ⟨u, rfl⟩ (vals_signs cs vs (by simpa using h) fun j v hj => g (j + 1) v hj)
/-- list(text) -/
theorem call_listS (hc : X.calm = true) : CallR X (.type "list") (fun xs H Q => ∃ z, xs = [V.str z] ∧ z.length ≤ sizeLine ∧ ∀ l, H l = none → Q (.ref l) (upd H l (.lst (z.cps.toList.map fun c => V.str ⟨#[c]⟩)))) := by
  intro pins s σ H xs us Q I r h
  obtain ⟨z, rfl, hz, q⟩ := h
  obtain ⟨u, rfl, rx⟩ := vals1 r
  obtain ⟨t, rfl⟩ := rx
  refine wpAny_mono (PySem.wpAny_toks (PySem.call_list_str (I.ok.hd hc) z t (Q := fun v s' => ∃ h' tk acc' c', v = .ref s.heap.objs.size ∧ s' = { s with heap := h', toks := tk } ∧ (∀ b o, s.heap.get? b = some o → h'.get? b = some o) ∧ h'.get? s.heap.objs.size = some { cls := .type "list", dict := none, data := .seq acc' c', slots := #[] } ∧ ItemsOf (SignAt z) acc' z.cps.size)
    (fun h' tk acc' c' hk hS ha => ⟨h', tk, acc', c', rfl, rfl, hk, hS, ha⟩) (hn := hz))) (fun v s1 q1 => ?_) fun _ _ z => z.2
  obtain ⟨hk, h', tk, acc', c', e1, e2, kp, hS, ha⟩ := q1
  subst e1 e2
  have hl : acc'.toList.length = z.cps.toList.length := by rw [Array.length_toList, Array.length_toList]; exact ha.1
  have r' : Vals (z.cps.toList.map fun c => V.str ⟨#[c]⟩) acc'.toList := vals_signs _ _ hl fun j v hj => by
    obtain ⟨c, u, h1, h2⟩ := ha.2 j v (by rw [← Array.getElem?_toList]; exact hj)
    exact ⟨c, u, by rw [Array.getElem?_toList]; exact h1, h2⟩
  exact ⟨.ref s.heap.objs.size, _, I.laid (t' := tk) kp (Nat.le_refl _) (show ObjOk X.prog X.w _ h' _ (.lst (z.cps.toList.map fun c => V.str ⟨#[c]⟩)) from ⟨by rw [List.length_map]; exact hz, acc'.toList, c', r', by rw [Array.toArray_toList]; exact hS⟩), rfl, q _ (I.hok.fresh (Nat.le_refl _))⟩
theorem drs_signs {G : Hp} : ∀ cs : List Nat, Drs G (cs.map fun c => V.str ⟨#[c]⟩) (cs.map fun c => PyData.str ⟨#[c]⟩)
  | [] => .nil
  | c :: cs => .cons (.str _) (drs_signs cs)
theorem b1_list (hc : X.calm = true) : CallR X (.type "list") (rB1 .list) := by
  intro pins s σ H vs us Q I r h
  obtain ⟨x, G, d, sv, rfl, sG, hx, e, q⟩ := h
  rcases hx with hx | ⟨a, xs, ds, rfl, ha, ra, rfl⟩
  · cases hx with
    | lst ha ra => cases e; exact call_list_of pins s σ H _ us Q I r ⟨_, _, rfl, .inl (SqL.of (sG _ _ ha)), fun l nl => q _ _ (svn_lst sG ra nl)⟩
    | tup ha ra => cases e; exact call_list_of pins s σ H _ us Q I r ⟨_, _, rfl, .inr ((ha.mono sG).sq), fun l nl => q _ _ (svn_lst sG ra nl)⟩
    | str z =>
      obtain ⟨hz, e⟩ := ite_if (show (if okL z.length = true then some (SV.own (z.cps.toList.map fun c => PyData.str ⟨#[c]⟩)) else none) = some sv from e)
      cases e
      exact call_listS hc pins s σ H _ us Q I r ⟨z, rfl, Nat.le_of_lt (okL_le hz), fun l nl => q _ _ (svn_lst sG (drs_signs _) nl)⟩
    | _ => cases e
  · cases e
    exact call_list_of pins s σ H _ us Q I r ⟨_, _, rfl, .inl (SqL.of ha), fun l nl => q _ _ (svn_lst sG ra nl)⟩
/-! ### sorted -/
theorem srtD_eq : ∀ ds : List D, srtD ds = ds.mergeSort (PySem.W.dataLe false id)
  | [] => by simp [srtD]
  | d :: r => by
    have T := PySem.W.sortLe_total (PyProof.Rows.listOrd PyProof.Rows.itemOrd) false fun b : D => PySem.W.keyToks b
    obtain ⟨l1, l2, h1, h2, h3⟩ := List.mergeSort_cons (le := PySem.W.dataLe false (id : D → D)) (fun a b c => T.trans a b c) (fun a b => by rw [Bool.or_eq_true]; exact T.total a b) d r
    have hs := List.pairwise_mergeSort (le := PySem.W.dataLe false (id : D → D)) (fun a b c => T.trans a b c) (fun a b => by rw [Bool.or_eq_true]; exact T.total a b) (d :: r)
    rw [h1] at hs
    rw [h1]
    show insD d (srtD r) = _
    rw [srtD_eq r, h2]
    have go : ∀ l1 : List D, (∀ b ∈ l1, (!PySem.W.dataLe false (id : D → D) d b) = true) → (∀ c ∈ l2, PySem.W.dataLe false (id : D → D) d c = true) → insD d (l1 ++ l2) = l1 ++ d :: l2 := by
      intro l1
      induction l1 with
      | nil =>
        intro _ g
        cases l2 with
        | nil => rfl
        | cons c l =>
          show (if (!ltD c d) = true then d :: c :: l else c :: insD d l) = _
          have hc : (!ltD c d) = true := g c List.mem_cons_self
          rw [if_pos hc]; rfl
      | cons b l ih =>
        intro f g
        show (if (!ltD b d) = true then d :: b :: (l ++ l2) else b :: insD d (l ++ l2)) = _
        have hb := f b List.mem_cons_self
        have hb2 : ¬ (!ltD b d) = true := by
          intro z
          have z : PySem.W.dataLe false (id : D → D) d b = true := z
          rw [z] at hb; cases hb
        rw [if_neg hb2, ih (fun y hy => f y (List.mem_cons_of_mem _ hy)) g]
        rfl
    refine go l1 h3 fun c hc => ?_
    exact (List.pairwise_append.mp hs).2.1 |> fun z => (List.pairwise_cons.mp z).1 c hc
theorem drs_each {G : Hp} {pins : List (Addr × Obj)} {X : Cx} {s : Shared} {σ : L2.St} {H : Hp} : ∀ {xs : List V} {its : List Value} {ds : List D}, Vals xs its → Drs G xs ds → PySem.W.EachIs (fun u d => ∃ x, RelV x u ∧ Dr G x d) its ds
  | _, _, _, .nil, .nil => .nil
  | _, _, _, .cons r rs, .cons h hs => .cons ⟨_, r, h⟩ (drs_each (pins := pins) (X := X) (s := s) (σ := σ) (H := H) rs hs)
theorem each_back {G : Hp} : ∀ {out : List Value} {es : List D}, PySem.W.EachIs (fun u d => ∃ x, RelV x u ∧ Dr G x d) out es → ∃ ys, Vals ys out ∧ Drs G ys es
  | _, _, .nil => ⟨[], .nil, .nil⟩
  | _, _, .cons ⟨x, r, h⟩ t => by
    obtain ⟨ys, h1, h2⟩ := each_back t
    exact ⟨x :: ys, .cons r h1, .cons h h2⟩
theorem each_reads {h : Heap} : ∀ {vs : List Value} {ds : List D} {as : List Addr}, ReadsAll h vs ds as → PySem.W.EachIs (fun v d => ∃ as, Reads h v d as) vs ds
  | _, _, _, .nil => .nil
  | _, _, _, .cons r rs => .cons ⟨_, r⟩ (each_reads rs)
theorem sorted_data (hu : X.A.units + 66 < cLine) {pins : List (Addr × Obj)} {s : Shared} {σ : L2.St} {H G : Hp} {a : Addr} {us : List Value} {Q : VK} {xs : List V} {ds : List D} (I : Inv X pins σ H s) (r : Vals [V.ref a] us) (sG : Same G H) (hS : SqL X.K H a xs) (ra : Drs G xs ds) (hz : okSrt ds = true)
    (q : ∀ v H', SvN G H v (.own (srtD ds)) H' → Q v H') : wpAny (model X.prog X.w) X.A (call (.builtin "sorted") us) (EP X pins σ Q) X.xe s := by
  rw [Vals.ref1 r]
  obtain ⟨its, rv, ht, hsz⟩ := I.list hS
  have hsz : its.length ≤ sizeLine := by rw [← rv.length]; exact hsz
  have fin : ∀ (out : List Value) (ys : List V) (es : List D), out.length = its.length → Vals ys out → Drs G ys es → es = srtD ds → EP X pins σ Q (.ref (s.heap.objs.size + 1)) { s with heap := sortedAll s.heap its out.toArray } := by
    intro out ys es hl rv' ra' ee
    subst ee
    obtain ⟨ep, he'⟩ := PyProof.Rows.sortedAll_at s.heap its out.toArray
    have hlen : ys.length ≤ sizeLine := by rw [rv'.length, hl]; exact hsz
    exact ⟨.ref _, upd H (s.heap.objs.size + 1) (.lst ys), I.laid (t' := s.toks) (fun _ _ => PyProof.Rows.sortedAll_old) (Nat.le_succ _) ⟨hlen, out, ep, rv', he'⟩, rfl, q _ _ (svn_lst sG ra' (I.hok.fresh (Nat.le_succ _)))⟩
  unfold okSrt at hz
  by_cases h2 : ds.length < 2
  · have hl : its.length = ds.length := by rw [← rv.length, ra.length]
    refine SrtO.sorted_ord SrtO.swo_int ht.isList hsz (fun h3 => absurd h3 (by omega)) fun out h3 h4 => ?_
    have hp := h4.perm
    have eo : out = its := by
      match its, out, hp, hl with
      | [], out, hp, _ => exact hp.eq_nil
      | [v], out, hp, _ => exact List.perm_singleton.mp hp
      | _ :: _ :: _, _, _, hl => simp at hl; omega
    have es : srtD ds = ds := by
      match ds, h2 with
      | [], _ => rfl
      | [d], _ => rfl
      | _ :: _ :: _, h2 => simp at h2; omega
    exact fin out xs ds (by rw [eo]) (by rw [eo]; exact rv) ra es.symm
  · rw [Bool.or_eq_true, Bool.and_eq_true] at hz
    rcases hz with hz | hz
    · exact absurd (of_decide_eq_true hz) h2
    obtain ⟨al, nn, sh⟩ := alkD_at hz.1
    obtain ⟨cl, dp⟩ := lay_all sh
    obtain ⟨as, h4⟩ := Dp.readsAll I _ _ its (Drs.dp sG ra cl) rv
    have hl : its.length = ds.length := by rw [← rv.length, ra.length]
    refine PySem.W.sorted_data (enc := id) (bs := ds) (R := fun u d => ∃ x, RelV x u ∧ Dr G x d) ht.isList (drs_each (pins := pins) (X := X) (s := s) (σ := σ) (H := H) rv ra) (each_reads h4) (by rw [List.map_id]; exact al) (by
      rw [List.map_id]
      refine .inl fun d hd => ?_
      have := List.all_eq_true.mp hz.2 d hd
      cases d with
      | tuple zs => cases zs with
        | nil => cases this
        | cons z zs => exact ⟨z, zs, rfl⟩
      | _ => cases this) (by omega) (fun d hd => by have := SeqAt.depth_of_shaped (sh d hd); show _ + (PyData.depth d) < _; omega) fun out hlo hout => ?_
    obtain ⟨ys, h5, h6⟩ := each_back hout
    exact fin out ys _ (by omega) h5 h6 (srtD_eq ds).symm
/-- sorted of a tuple of ints -/
theorem cr_sortTI : CallR X (.builtin "sorted") (fun vs H Q => ∃ (a : Addr) (ns : List Int), vs = [V.ref a] ∧ SqT X.K H a (ns.map V.int) ∧
    ∀ (ns' : List Int) (p : Addr), ns'.Perm ns → ns'.Pairwise (· ≤ ·) → H p = none → Q (.ref p) (upd H p (.lst (ns'.map V.int)))) := by
  intro pins s σ H vs us Q I r h
  obtain ⟨a, ns, rfl, hs, q⟩ := h
  obtain ⟨its, rv, ⟨o, ho, hc, n, hd⟩, hz⟩ := I.tuple hs
  rw [Vals.ref1 r]
  have hi := rv.ints
  have hlen : its.length ≤ sizeLine := by rw [← rv.length]; exact hz
  refine Calls.call_function_entry kind_sorted plain_sorted entry_sorted (args_sorted1 _) ?_
  unfold Builtin.«sorted»
  refine wpAny_bind (m := checkCount "sorted" 1 1 _) (wpAny_pure (wpAny_bind (wpAny_collect_seq a (.inr rfl) ho hc hd (fun h' hk => ?_) (by simpa using hlen))))
  have I1 : Inv X pins σ H { s with heap := h' } := I.kept hk
  have el : its.toArray.toList = its := by simp
  rw [el]
  refine wpAny_bind (wpAny_newList ?_ hlen)
  have hobj : (h'.push { cls := .type "list", data := .seq its.toArray }).get? h'.objs.size = some (seqObj "list" its.toArray 0) := Heap.get?_push_size _ rfl
  have old1 : ∀ b ob, h'.get? b = some ob → (h'.push { cls := .type "list", data := .seq its.toArray }).get? b = some ob ∧ b ≠ h'.objs.size := fun b ob e => ⟨Heap.get?_push_of_some _ e, Nat.ne_of_lt (Heap.lt_size e)⟩
  have hsort : ∀ E' : Value → Shared → Prop, wpAny (model X.prog X.w) X.A.in1 (call (.builtin "list.sort") [.ref h'.objs.size]) (fun _ s' => EP X pins σ Q (.ref h'.objs.size) s') E' { s with heap := h'.push { cls := .type "list", data := .seq its.toArray } } := by
    intro E'
    refine wpAny_call_entry PyProof.Rows.slot_list_sort ⟨_, hobj, rfl⟩ PyProof.Rows.entry_list_sort
      (SrtO.list_sort_ord SrtO.swo_int hobj hlen (fun h2 => SrtO.ints_sortable hi h2) fun out h1 h2 => ⟨.none, rfl, ?_⟩) (PyProof.Rows.args_list_sort _)
    obtain ⟨k1, k2, k3⟩ := SrtO.ints_out hi h1 h2
    obtain ⟨ep, he'⟩ := PyProof.Rows.sortedHeap_at (vs := its) (out := out.toArray) hobj
    have hl2 : ((out.map SrtO.iv).map V.int).length ≤ sizeLine := by
      rw [List.length_map, k2.length_eq]
      rw [List.length_map] at hz
      exact hz
    have np : H h'.objs.size = none := I1.hok.fresh (Nat.le_refl _)
    refine ⟨.ref _, upd H h'.objs.size (.lst ((out.map SrtO.iv).map V.int)), I1.laid (t' := s.toks) (fun b ob e => ?_) (Nat.le_refl _) ⟨hl2, out, ep, vals_of_ints k1, he'⟩, rfl, q _ _ k2 k3 np⟩
    obtain ⟨e1, e2⟩ := old1 b ob e
    rw [PyProof.Rows.sortedHeap_old e2 (Heap.lt_size e1)]; exact e1
  exact wpAny_bind (wpAny_holding (wpAny_mono (hsort _) (fun _ s' x => wpAny_pure ⟨_, rfl, x⟩) fun _ _ e => e))
theorem b1_sorted (hu : X.A.units + 66 < cLine) : CallR X (.builtin "sorted") (rB1 .sorted) := by
  intro pins s σ H vs us Q I r h
  obtain ⟨x, G, d, sv, rfl, sG, hx, e, q⟩ := h
  have hd : (∃ ds, d = .list ds) ∨ ∃ ds, d = .tuple ds := by cases d <;> first | exact .inl ⟨_, rfl⟩ | exact .inr ⟨_, rfl⟩ | cases e
  rcases hd with ⟨ds, rfl⟩ | ⟨ds, rfl⟩
  case inr =>
    have e : (match intsD ds with | some ns => some (SV.own ((sortI ns).map .int)) | none => none) = some sv := e
    cases e2 : intsD ds with
    | none => rw [e2] at e; cases e
    | some ns =>
      rw [e2] at e
      cases e
      rcases hx with hx | ⟨a, xs, es, rfl, ha, ra, e3⟩
      · cases hx with
        | tup ha ra =>
          obtain ⟨e3, _⟩ := ra.ints_of e2
          subst e3
          refine cr_sortTI pins s σ H _ us Q I r ⟨_, ns, rfl, (ha.mono sG).sq, fun ns' p h1 h2 np => ?_⟩
          rw [sortI_one h1 h2]
          exact q _ _ (svn_lst sG (Drs.ints _) np)
      · cases e3
  have e : (match intsD ds with | some ns => some (SV.own ((sortI ns).map .int)) | none => if okSrt ds then some (.own (srtD ds)) else none) = some sv := e
  cases e2 : intsD ds with
  | none =>
    rw [e2] at e
    obtain ⟨hz, e⟩ := ite_some e
    subst e
    rcases hx with hx | ⟨a, xs, es, rfl, ha, ra, e3⟩
    · cases hx with
      | lst ha ra => exact sorted_data hu I r sG (SqL.of (sG _ _ ha)) ra hz q
    · cases e3
      exact sorted_data hu I r sG (SqL.of ha) ra hz q
  | some ns =>
  rw [e2] at e
  cases e
  have fin : ∀ a, SqL X.K H a (ns.map V.int) → x = .ref a → wpAny (model X.prog X.w) X.A (call (.builtin "sorted") us) (EP X pins σ Q) X.xe s := fun a hS ea => by
    subst ea
    refine cr_sortedI pins s σ H _ us Q I r ⟨a, ns, rfl, hS, fun ns' p h1 h2 np => ?_⟩
    rw [sortI_one h1 h2]
    exact q _ _ (svn_lst sG (Drs.ints _) np)
  rcases hx with hx | ⟨a, xs, es, rfl, ha, ra, e3⟩
  · cases hx with
    | lst ha ra =>
      obtain ⟨e3, _⟩ := ra.ints_of e2
      subst e3
      exact fin _ (SqL.of (sG _ _ ha)) rfl
  · cases e3
    obtain ⟨e3, _⟩ := ra.ints_of e2
    subst e3
    exact fin _ (SqL.of ha) rfl
theorem b2_max (hc : X.calm = true) : CallR X (.builtin "max") (rB2 .max) := by
  intro pins s σ H vs us Q I r h
  obtain ⟨x, y, G, dx, dy, d, rfl, sG, hx, hy, e, q⟩ := h
  cases hx with
  | int i =>
    cases hy with
    | int j => cases e; exact call_max2 hc pins s σ H _ us Q I r ⟨i, j, rfl, q _ (.int _)⟩
    | _ => cases e
  | _ => cases e
theorem b2_min (hc : X.calm = true) : CallR X (.builtin "min") (rB2 .min) := by
  intro pins s σ H vs us Q I r h
  obtain ⟨x, y, G, dx, dy, d, rfl, sG, hx, hy, e, q⟩ := h
  cases hx with
  | int i =>
    cases hy with
    | int j => cases e; exact call_min2 hc pins s σ H _ us Q I r ⟨i, j, rfl, q _ (.int _)⟩
    | _ => cases e
  | _ => cases e

/-! ### isinstance -/
def tyS : Ty → String
  | .int => "int"
  | .bool => "bool"
  | .tuple => "tuple"
  | .list => "list"
  | .str => "str"
theorem kit_yes {K : PySem.W.Frag} {H G : Hp} {x : V} {d : D} (sG : Same G H) (h : Dr G x d) : ∃ tv, TyX K H x tv ∧ ∀ t b, isiT d t = some b → PySem.W.kitOne K tv (.type (tyS t)) = some b := by
  cases h with
  | non => refine ⟨_, .base .non, fun t b e => ?_⟩; cases t <;> cases e <;> exact kit_ty (by decide +kernel)
  | bl c => refine ⟨_, .base (.bl c), fun t b e => ?_⟩; cases t <;> cases e <;> exact kit_ty (by decide +kernel)
  | int i => refine ⟨_, .base (.int i), fun t b e => ?_⟩; cases t <;> cases e <;> exact kit_ty (by decide +kernel)
  | str z => refine ⟨_, .base (.str z), fun t b e => ?_⟩; cases t <;> cases e <;> exact kit_ty (by decide +kernel)
  | lst ha ra => refine ⟨_, .base (.lst (sG _ _ ha)), fun t b e => ?_⟩; cases t <;> cases e <;> exact kit_ty (by decide +kernel)
  | tup ha ra => obtain ⟨o, h1, _⟩ := ha; refine ⟨_, .fTuple (sG _ _ h1), fun t b e => ?_⟩; cases t <;> cases e <;> exact kit_ty (by decide +kernel)
  | pr ha _ => exact ⟨_, .base (.tup (sG _ _ ha)), fun t b e => by cases e⟩
  | scr _ ha => exact ⟨_, .base (.frz (sG _ _ ha)), fun t b e => by cases e⟩
  | dc0 ha => refine ⟨_, .base (.dT (sG _ _ ha)), fun t b e => ?_⟩; cases t <;> cases e <;> exact kit_ty (by decide +kernel)

/-! ### methods of lists -/
def rMf (m : Mf) : V → List V → Hp → VK → Prop := fun x vs H Q => ∃ y G dx dy d, vs = [y] ∧ Same G H ∧ RdR G H x dx ∧ Dr G y dy ∧ methD m dx dy = some d ∧ kndD dx = 1 ∧ ∀ v, Dr G v d → Q v H
def rMfT (m : Mf) : V → List V → Hp → VK → Prop := fun x vs H Q => ∃ y G a xs ds dy d, vs = [y] ∧ x = .ref a ∧ Same G H ∧ TF G a xs ∧ Drs G xs ds ∧ Dr G y dy ∧ methD m (.tuple ds) dy = some d ∧ ∀ v, Dr G v d → Q v H
theorem shp_list {ds : List D} (h : shp (.list ds) = true) : PyData.canLayAll0 ds = true := by
  have := shp_can h
  simpa [PyData.canLay0] using this
theorem m_items {K : PySem.W.Frag} {G H : Hp} {x : V} {dx : D} {ds : List D} (sG : Same G H) (hx : RdR G H x dx) (e : seqD dx = some ds) (hz : shp (.list ds) = true) : ∃ a xs, x = .ref a ∧ DpAll K H xs ds ∧ ((∃ es, dx = .list es) ∧ SqL K H a xs ∨ (∃ es, dx = .tuple es) ∧ SqT K H a xs) := by
  rcases hx with hx | ⟨a, xs, es, rfl, ha, ra, rfl⟩
  · cases hx with
    | lst ha ra => cases e; exact ⟨_, _, rfl, Drs.dp sG ra (shp_list hz), .inl ⟨⟨_, rfl⟩, SqL.of (sG _ _ ha)⟩⟩
    | tup ha ra => cases e; exact ⟨_, _, rfl, Drs.dp sG ra (shp_list hz), .inr ⟨⟨_, rfl⟩, (ha.mono sG).sq⟩⟩
    | scr ns ha => cases e
    | _ => cases e
  · cases e
    exact ⟨a, xs, rfl, Drs.dp sG ra (shp_list hz), .inl ⟨⟨_, rfl⟩, SqL.of ha⟩⟩
section
variable {X : Cx}
theorem m_count (hu : X.A.units + 65 < cLine) : MtR X "list.count" (rMf .count) := by
  intro pins s σ H x xs v us Q I rx rxs h
  obtain ⟨y, G, dx, dy, d, rfl, sG, hx, hy, e, kn, q⟩ := h
  have hd : ∃ ds, dx = .list ds := by cases dx <;> first | exact ⟨_, rfl⟩ | cases e | cases kn
  obtain ⟨ds, rfl⟩ := hd
  obtain ⟨hz, e⟩ := ite_some (show (if (shp dy && shp (.list ds)) = true then some (PyData.int (ds.countP fun z => PyData.eqv z dy : Nat)) else none) = some d from e)
  rw [Bool.and_eq_true] at hz
  subst e
  obtain ⟨a, zs, rfl, hD, hk⟩ := m_items (K := X.K) sG hx rfl hz.2
  have hs : SqL X.K H a zs := by
    rcases hk with ⟨_, hs⟩ | ⟨⟨_, e⟩, _⟩
    · exact hs
    · cases e
  cases rx
  cases rxs with
  | cons ry rt =>
    rename_i uy ut
    cases rt
    obtain ⟨bs, r1⟩ := Dp.reads I dy y uy (hy.dp sG (shp_can hz.1)) ry
    obtain ⟨its, rv, ⟨⟨cls, dd, data, sls⟩, n, ho, hc, hdn, hdt⟩, hlen⟩ := I.list hs
    simp only at hc hdt
    subst hc hdt
    obtain ⟨as, h4⟩ := Dp.readsAll I ds _ its hD rv
    have hmap : its.map (SeqAt.readOf s.heap) = ds := SeqAt.readsAll_map ds its as (shp_list hz.2) h4
    refine call_meets PySem.F.slot_list_count ⟨_, ho, rfl⟩ PySem.F.entry_list_count (PySem.F.args_list_count_2 _ _)
      (SeqAt.list_countAt a its.toArray n dd sls uy (fun u => PyData.eqv (SeqAt.readOf s.heap u) dy)) ⟨ho, SeqAt.items_eqAt (vs := its.toArray) (show ReadsAll s.heap its.toArray.toList ds as from h4) r1 (shp_list hz.2) (SeqAt.canLay_of_shaped hz.1) (room_in_shaped hz.1 hu), ?_⟩
    have ec : its.toArray.toList.countP (fun u => PyData.eqv (SeqAt.readOf s.heap u) dy) = ds.countP fun z => PyData.eqv z dy := by
      rw [← hmap, List.countP_map]; rfl
    refine ⟨.int ((ds.countP fun z => PyData.eqv z dy : Nat)), H, I.tok _, ⟨s.toks, ?_⟩, q _ (.int _)⟩
    show Value.int ((its.toArray.toList.countP (fun u => PyData.eqv (SeqAt.readOf s.heap u) dy) : Nat) : Int) s.toks = _
    rw [ec]
theorem m_index (hu : X.A.units + 65 < cLine) : MtR X "list.index" (rMf .index) := by
  intro pins s σ H x xs v us Q I rx rxs h
  obtain ⟨y, G, dx, dy, d, rfl, sG, hx, hy, e, kn, q⟩ := h
  have hd : ∃ ds, dx = .list ds := by cases dx <;> first | exact ⟨_, rfl⟩ | cases e | cases kn
  obtain ⟨ds, rfl⟩ := hd
  have e : (if (shp dy && shp (.list ds)) = true then ob (ds.findIdx? fun z => PyData.eqv z dy) (fun j => some (PyData.int (j : Nat))) else none) = some d := e
  have hz : (shp dy && shp (.list ds)) = true := by
    cases z : (shp dy && shp (.list ds)) with
    | true => rfl
    | false => rw [z] at e; cases e
  rw [if_pos hz] at e
  rw [Bool.and_eq_true] at hz
  obtain ⟨j, e2, e⟩ := ob_some e
  cases e
  rw [List.findIdx?_eq_some_iff_getElem] at e2
  obtain ⟨h1, h2, h3⟩ := e2
  have hx0 := hx
  have hr : ∃ a, x = .ref a := by
    rcases hx with hx | ⟨a, _, _, rfl, _⟩
    · cases hx with
      | lst _ _ => exact ⟨_, rfl⟩
    · exact ⟨a, rfl⟩
  obtain ⟨a, rfl⟩ := hr
  refine mt_indexD hu pins s σ H _ _ v us Q I rx rxs ⟨a, y, dy, ds, j, ds[j], rfl, rfl, hx0.dp sG (shp_can hz.2), hy.dp sG (shp_can hz.1), hz.2, hz.1, List.getElem?_eq_getElem h1, h2, fun m z hm hmz => ?_, q _ (.int _)⟩
  obtain ⟨h4, h5⟩ := List.getElem?_eq_some_iff.mp hmz
  have := h3 m hm
  rw [← h5]
  simpa using this
theorem m_countT (hu : X.A.units + 65 < cLine) : MtR X "tuple.count" (rMfT .count) := by
  intro pins s σ H x xs v us Q I rx rxs h
  obtain ⟨y, G, a, zs, ds, dy, d, rfl, rfl, sG, ha, ra, hy, e, q⟩ := h
  obtain ⟨hz, e⟩ := ite_some (show (if (shp dy && shp (.tuple ds)) = true then some (PyData.int (ds.countP fun z => PyData.eqv z dy : Nat)) else none) = some d from e)
  rw [Bool.and_eq_true] at hz
  subst e
  have hcan : PyData.canLayAll0 ds = true := by simpa [PyData.canLay0] using shp_can hz.2
  cases rx
  cases rxs with
  | cons ry rt =>
    rename_i uy ut
    cases rt
    obtain ⟨bs, r1⟩ := Dp.reads I dy y uy (hy.dp sG (shp_can hz.1)) ry
    obtain ⟨its, rv, ⟨⟨cls, dd, data, sls⟩, ho, hc, n, hdt⟩, hlen⟩ := I.tuple (ha.mono sG).sq
    simp only at hc hdt
    subst hc hdt
    obtain ⟨as, h4⟩ := Dp.readsAll I ds _ its (Drs.dp sG ra hcan) rv
    have hmap : its.map (SeqAt.readOf s.heap) = ds := SeqAt.readsAll_map ds its as hcan h4
    refine call_meets PySem.F.slot_tuple_count ⟨_, ho, rfl⟩ PySem.F.entry_tuple_count (PySem.F.args_tuple_count_2 _ _)
      (SeqAt.tuple_countAt a its.toArray n dd sls uy (fun u => PyData.eqv (SeqAt.readOf s.heap u) dy)) ⟨ho, SeqAt.items_eqAt (vs := its.toArray) (show ReadsAll s.heap its.toArray.toList ds as from h4) r1 hcan (SeqAt.canLay_of_shaped hz.1) (room_in_shaped hz.1 hu), ?_⟩
    have ec : its.toArray.toList.countP (fun u => PyData.eqv (SeqAt.readOf s.heap u) dy) = ds.countP fun z => PyData.eqv z dy := by
      rw [← hmap, List.countP_map]; rfl
    refine ⟨.int ((ds.countP fun z => PyData.eqv z dy : Nat)), H, I.tok _, ⟨s.toks, ?_⟩, q _ (.int _)⟩
    show Value.int ((its.toArray.toList.countP (fun u => PyData.eqv (SeqAt.readOf s.heap u) dy) : Nat) : Int) s.toks = _
    rw [ec]
theorem m_indexT (hu : X.A.units + 65 < cLine) : MtR X "tuple.index" (rMfT .index) := by
  intro pins s σ H x xs v us Q I rx rxs h
  obtain ⟨y, G, a, zs, ds, dy, d, rfl, rfl, sG, ha, ra, hy, e, q⟩ := h
  have e : (if (shp dy && shp (.tuple ds)) = true then ob (ds.findIdx? fun z => PyData.eqv z dy) (fun j => some (PyData.int (j : Nat))) else none) = some d := e
  have hz : (shp dy && shp (.tuple ds)) = true := by
    cases z : (shp dy && shp (.tuple ds)) with
    | true => rfl
    | false => rw [z] at e; cases e
  rw [if_pos hz] at e
  rw [Bool.and_eq_true] at hz
  obtain ⟨j, e2, e⟩ := ob_some e
  cases e
  rw [List.findIdx?_eq_some_iff_getElem] at e2
  obtain ⟨h1, h2, h3⟩ := e2
  have hcan : PyData.canLayAll0 ds = true := by simpa [PyData.canLay0] using shp_can hz.2
  cases rx
  cases rxs with
  | cons ry rt =>
    rename_i uy ut
    cases rt
    obtain ⟨bs, r1⟩ := Dp.reads I dy y uy (hy.dp sG (shp_can hz.1)) ry
    obtain ⟨its, rv, ⟨⟨cls, dd, data, sls⟩, ho, hc, n, hdt⟩, hlen⟩ := I.tuple (ha.mono sG).sq
    simp only at hc hdt
    subst hc hdt
    obtain ⟨as, h4⟩ := Dp.readsAll I ds _ its (Drs.dp sG ra hcan) rv
    have hmap : its.map (SeqAt.readOf s.heap) = ds := SeqAt.readsAll_map ds its as hcan h4
    have hl : its.length = ds.length := by rw [← hmap, List.length_map]
    have hget : ∀ (m : Nat) (hm : m < its.toArray.size), SeqAt.readOf s.heap its.toArray[m] = ds[m]'(by simpa [hl] using hm) := fun m hm => by
      simp only [← hmap, List.getElem_map, List.getElem_toArray]
    have hj : j < its.toArray.size := by simpa [hl] using h1
    refine call_meets PySem.F.slot_tuple_index ⟨_, ho, rfl⟩ PySem.F.entry_tuple_index (PySem.F.args_tuple_index_2 _ _)
      (_root_.TI.tuple_indexAt a its.toArray n dd sls uy (fun u => PyData.eqv (SeqAt.readOf s.heap u) dy) j hj (by rw [hget j hj]; exact h2) fun m hm hmj => ?_) ⟨ho, SeqAt.items_eqAt (vs := its.toArray) (show ReadsAll s.heap its.toArray.toList ds as from h4) r1 hcan (SeqAt.canLay_of_shaped hz.1) (room_in_shaped hz.1 hu), ?_⟩
    · have := h3 m hmj
      rw [hget m hm]
      simpa using this
    · exact ⟨.int (j : Nat), H, I.tok _, ⟨s.toks, rfl⟩, q _ (.int _)⟩
/-- o.m(e), o a list or a tuple -/
def tBX (K : PySem.W.Frag) (rL rT : V → List V → Hp → VK → Prop) (to : TE) (t : TA) : TE := fun σ H Q => to σ H fun x H1 =>
  (tyV K "list" x H1 ∧ t σ H1 fun xs H2 => rL x xs H2 Q) ∨ ((∃ p ys, x = .ref p ∧ TF H1 p ys) ∧ t σ H1 fun xs H2 => rT x xs H2 Q)
theorem pe_bmX {a0 b0 : Expr} {to : TE} {t : TA} {nm : Str} {ap pos : Pos} {idL idT : String} {rL rT : V → List V → Hp → VK → Prop} (slL : Slot "list" nm idL) (tyL : typeOf (.builtin idL) = pure (.type "method_descriptor")) (hL : MtR X idL rL)
    (slT : Slot "tuple" nm idT) (tyT : typeOf (.builtin idT) = pure (.type "method_descriptor")) (hT : MtR X idT rT) (ho : PE X a0 to) (ha : PA X [b0] t)
    (hbase : attributeBase a0 nm X.env (eval a0 X.env) = eval a0 X.env)
    (hfew : ((backTo pos (starEach [b0] X.env)).all (fun x => !x.1) && (backToKw pos (keywordEach [] X.env)).all (fun x => x.1.isSome)
      && decide ([b0].length + ([] : List Keyword).length + (if ([] : List Keyword).isEmpty then 0 else 1) < 30)) = true)
    (hline : (ap.endLine == pos.line) = true) (hs : starEach [b0] X.env = (false, eval b0 X.env) :: starEach [] X.env) :
    PE X (.Call (.Attribute a0 nm ap) [b0] [] pos) (tBX X.K rL rT to t) := by
  refine ⟨fun pins s σ H Q I h => wpAny_Call_method_late hbase hfew hline rfl (thn (ho.run pins s σ H _ I h) fun v s1 ⟨x, H1, I1, r1, q0⟩ => ?_)⟩
  rcases q0 with ⟨ty, q1⟩ | ⟨⟨p, ys, rfl, o, hp, hd⟩, q1⟩
  · obtain ⟨h1, h2⟩ := tyV_is I1 r1 ty
    refine ⟨"list", idL, PySem.F.plainAttrs_list, slL, tyL, h1, h2, ?_⟩
    have hA := ha.run pos pins s1 σ H1 _ I1 q1
    rw [hs] at hA ⊢
    exact Calls.callWith_builtin rfl (Calls.evalArgs_plain (thn hA fun us s2 ⟨vs, H2, I2, r2, q2⟩ => hL pins s2 σ H2 x vs v us Q I2 r1 r2 q2))
  · obtain rfl : v = Value.ref p := r1
    obtain ⟨e1, _, its, r, o2, e2, c2, _⟩ := (show ObjOk X.prog X.w H1 s1.heap p (.frz o (.tup ys)) from I1.hok p _ hp)
    refine ⟨"tuple", idT, PySem.F.plainAttrs_tuple, slT, tyT, ⟨o2, e2, c2⟩, fun a ea => by cases ea; exact ⟨o, e1, hd⟩, ?_⟩
    have hA := ha.run pos pins s1 σ H1 _ I1 q1
    rw [hs] at hA ⊢
    exact Calls.callWith_builtin rfl (Calls.evalArgs_plain (thn hA fun us s2 ⟨vs, H2, I2, r2, q2⟩ => hT pins s2 σ H2 (.ref p) vs (.ref p) us Q I2 rfl r2 q2))
end
end
end DP

/-! what a loop walks: lists, tuples, ranges, enumerate, zip (lists and tuples in any mix) -/
namespace DP
open PySem PySem.Spec PyProof.Rows L2

/-! ### a list or a tuple, by kind -/
def SqK (K : PySem.W.Frag) (H : Hp) (k : Bool) (a : Addr) (xs : List V) : Prop := match k with
  | true => SqL K H a xs
  | false => SqT K H a xs
def itK (k : Bool) (h : Heap) (it a : Addr) (i : Nat) : Prop := match k with
  | true => h.IsListIter it a i
  | false => h.IsTupleIter it a i
def conK (k : Bool) (a : Addr) (items : Array Value) (h : Heap) : Prop := match k with
  | true => h.IsList a items
  | false => h.IsTuple a items
def objK (k : Bool) (a : Addr) : Obj := match k with
  | true => { cls := .type "list_iterator", data := .fields #[.ref a, .int 0 0] }
  | false => { cls := .type "tuple_iterator", data := .fields #[.ref a, .int 0 0] }
theorem itK.look {k : Bool} {h : Heap} {it a : Addr} {i : Nat} (x : itK k h it a i) : ∃ o, h.get? it = some o ∧ ∀ v, o.data ≠ .cell v := by
  cases k with
  | true => obtain ⟨o, e, c, d⟩ := x; exact ⟨o, e, fun v z => by rw [d] at z; cases z⟩
  | false => obtain ⟨o, e, c, d⟩ := x; exact ⟨o, e, fun v z => by rw [d] at z; cases z⟩
theorem itK.at {k : Bool} {h h' : Heap} {it a : Addr} {i : Nat} (x : itK k h it a i) (q : ∀ o, h.get? it = some o → h'.get? it = some o) : itK k h' it a i := by
  cases k with
  | true => obtain ⟨o, e, c, d⟩ := x; exact ⟨o, q o e, c, d⟩
  | false => obtain ⟨o, e, c, d⟩ := x; exact ⟨o, q o e, c, d⟩
theorem itK.new {k : Bool} {h : Heap} {it a : Addr} (e : h.get? it = some (objK k a)) : itK k h it a 0 := by
  cases k with
  | true => exact ⟨_, e, rfl, rfl⟩
  | false => exact ⟨_, e, rfl, rfl⟩
theorem conK.at {k : Bool} {h h' : Heap} {a : Addr} {items : Array Value} (x : conK k a items h) (q : ∀ o, h.get? a = some o → h'.get? a = some o) : conK k a items h' := by
  cases k with
  | true => obtain ⟨o, e, r⟩ := x; exact ⟨o, q o e, r⟩
  | false => obtain ⟨o, e, r⟩ := x; exact ⟨o, q o e, r⟩
theorem drawsK {prog : Program} {w : World} {A : Around} (hh : A.handled = none) (k : Bool) (it a : Addr) (ne : a ≠ it) (items : Array Value) :
    Draws prog w A it [it, a] items.size (fun i v => items[i]? = some v) (fun i h => itK k h it a i ∧ conK k a items h) := by
  cases k with
  | true => exact Draws.list hh it a ne items
  | false => exact Draws.tuple hh it a ne items
theorem beginsK (k : Bool) (a : Addr) (items : Array Value) : Begins (.ref a) (objK k a) (conK k a items) := by
  cases k with
  | true => exact begins_list a items
  | false => exact begins_tuple a items
section
variable {X : Cx} {pins : List (Addr × Obj)} {σ : L2.St} {H : Hp} {s : Shared} {k : Bool} {a : Addr} {xs ys : List V}
theorem seqK (I : Inv X pins σ H s) (h : SqK X.K H k a xs) : ∃ its : List Value, Vals xs its ∧ conK k a its.toArray s.heap ∧ a < s.heap.objs.size := by
  cases k with
  | true => obtain ⟨its, r, p, _⟩ := I.list h; exact ⟨its, r, p.isList, p.lt⟩
  | false => obtain ⟨its, r, p, _⟩ := I.tuple h; exact ⟨its, r, p, p.lt⟩
theorem seqK_inj (I : Inv X pins σ H s) (h : SqK X.K H k a xs) (h' : SqK X.K H k a ys) : xs = ys := by
  cases k with
  | true => exact I.list_inj h h'
  | false => exact I.tuple_inj h h'
end

/-! ### enumerate -/
def ItE (K : PySem.W.Frag) (k : Bool) (a : Addr) : It :=
  ⟨fun i H => ∃ (xs : List V) (x : V), SqK K H k a xs ∧ xs[i]? = some x, fun i H v H' => ∃ T x, v = .ref T ∧ H T = none ∧ H' = upd H T (.tup [.int (i : Nat), x]) ∧ ∀ xs, SqK K H k a xs → xs[i]? = some x, fun i H => ∃ xs : List V, SqK K H k a xs ∧ xs.length = i⟩
theorem is_two {h : Heap} {T : Addr} {u v : Value} {x y : V} {P : Program} {w : World} {H : Hp} (t : h.IsTuple T #[u, v]) (r1 : RelV x u) (r2 : RelV y v) : ObjOk P w H h T (.tup [x, y]) :=
  ⟨by show 2 ≤ sizeLine; decide, [u, v], .cons r1 (.cons r2 .nil), t⟩
theorem turn_en {P : Program} {w : World} {K : PySem.W.Frag} {elts : List Expr} {kk : Nat} {tpos : Pos} (k : Bool) (a e it : Addr) :
    Turn P w K (.Tuple elts kk tpos) (ItE K k a) [e, it] e (fun i h => (∃ old, IsEnum h e it (0 + ((i : Nat) : Int)) old) ∧ itK k h it a i ∧ e ≠ it ∧ a ≠ it ∧ e ≠ a) where
  mem := List.mem_cons_self
  obj := fun i h st b hb => by
    obtain ⟨⟨old, he⟩, hi, _⟩ := st
    rcases List.mem_cons.mp hb with z | hb
    · rw [z]; exact ⟨_, he, fun v q => nomatch q⟩
    · rcases List.mem_cons.mp hb with z | hb
      · rw [z]; exact hi.look
      · cases hb
  keep := fun i h h' st kp => let ⟨⟨old, he⟩, hi, r⟩ := st; ⟨⟨old, kp e (by simp) _ he⟩, hi.at fun o q => kp it (by simp) o q, r⟩
  item := by
    intro X hP hw hK hc i pins s σ H E I hf st hg
    subst hP hw hK
    obtain ⟨he, hit, n1, n2, n3⟩ := st
    obtain ⟨xs, x, hq, hx⟩ := hg
    obtain ⟨its, rv, p, hz⟩ := seqK I hq
    obtain ⟨u, hu, ru⟩ := rv.get hx
    have hlt : i < its.toArray.size := by simpa using (List.getElem?_eq_some_iff.mp hu).1
    have W := GoesN.enumFrom (prog := X.prog) (w := X.w) (A := X.A) (elts := elts) (x1 := kk) (pos := tpos) 0 (drawsK (A := X.A.in1) (I.ok.hd hc) k it a n2 its.toArray) e n1 (by simp [n1, n3]) (by simp)
    have hel : e < s.heap.objs.size := by obtain ⟨old, q⟩ := he; exact Heap.lt_size q
    have hil : it < s.heap.objs.size := by obtain ⟨o, q, _⟩ := hit.look; exact Heap.lt_size q
    refine W.goes i s (fun v s2 => ∃ x H', Inv X pins σ H' s2 ∧ RelV x v ∧ (ItE X.K k a).yld i H x H' ∧ ((∃ old, IsEnum s2.heap e it (0 + ((i + 1 : Nat) : Int)) old) ∧ itK k s2.heap it a (i + 1) ∧ e ≠ it ∧ a ≠ it ∧ e ≠ a) ∧ ∀ b ∈ [e, it], H' b = none) E hlt ⟨he, hit, p⟩ fun v h' tk hY st' hk _ => ?_
    obtain ⟨T, t, y, rfl, hT, hy, hTu⟩ := hY
    have ey : y = u := by
      have q : its.toArray[i]? = some u := by simpa using hu
      rw [q] at hy; exact (Option.some.inj hy).symm
    subst ey
    have e0 : (0 : Int) + (i : Int) = (i : Int) := Int.zero_add _
    rw [e0] at hTu
    have new : ObjOk X.prog X.w (upd H T (.tup [.int (i : Nat), x])) h' T (.tup [.int (i : Nat), x]) := is_two hTu ⟨t, rfl⟩ ru
    have I1 := I.turnedNew (t' := tk) (ch := [e, it]) (fun b ob hb q => hk b ob hb q) hf hT new
    refine ⟨.ref T, _, I1, rfl, ⟨T, x, rfl, I.hok.fresh hT, rfl, fun ys hy => by rw [seqK_inj I hy hq]; exact hx⟩, ⟨st'.1, st'.2.1, n1, n2, n3⟩, fun b hb => ?_⟩
    have hb' : b < s.heap.objs.size := by
      rcases List.mem_cons.mp hb with z | hb
      · rw [z]; exact hel
      · rcases List.mem_cons.mp hb with z | hb
        · rw [z]; exact hil
        · cases hb
    rw [upd_ne (Nat.ne_of_lt (Nat.lt_of_lt_of_le hb' hT))]
    exact (hf b hb).1
  done := by
    intro X hP hw hK hc i pins s σ H E I hf st hg
    subst hP hw hK
    obtain ⟨he, hit, n1, n2, n3⟩ := st
    obtain ⟨xs, hq, hx⟩ := hg
    obtain ⟨its, rv, p, hz⟩ := seqK I hq
    have hn : its.toArray.size = i := by rw [← hx, rv.length]; simp
    have W := GoesN.enumFrom (prog := X.prog) (w := X.w) (A := X.A) (elts := elts) (x1 := kk) (pos := tpos) 0 (drawsK (A := X.A.in1) (I.ok.hd hc) k it a n2 its.toArray) e n1 (by simp [n1, n3]) (by simp)
    refine W.stops s (fun s2 => Inv X pins σ H s2) E (by rw [hn]; exact ⟨he, hit, p⟩) fun h' tk hk _ => ?_
    exact I.turnedL (t' := tk) (ch := [e, it]) (fun b ob hb q => hk b ob hb q) hf
  self := fun A i s Q E st h => let ⟨⟨_, he⟩, _⟩ := st; wpAny_pyIter_enum he h
theorem enum_made {v : Value} {ob : Obj} {P : Heap → Prop} (B : Begins v ob P) :
    Meets (Builtin.«enumerate.__new__» ⟨[.type "enumerate", v], []⟩) (fun _ R s => P s.heap ∧
      R (.ok (.ret (.ref (s.heap.push ob).objs.size))) { s with heap := (s.heap.push ob).push { cls := .type "enumerate", data := .fields #[.none, .bool false, .ref s.heap.objs.size, rawInt 0, .none, .none] } }) :=
  .of_wp fun prog w A R s h => by
    obtain ⟨hp, gn, dn, tk, os⟩ := s
    obtain ⟨hP, h⟩ := h
    have hsub := sub_enumerate
    have begun : ∀ {A' : Around} {E : Value → Shared → Prop} {Q : Value → Shared → Prop}, Q (.ref hp.objs.size) ⟨hp.push ob, gn, dn, tk, os⟩ → wpAny (model prog w) A' (pyIter v) Q E ⟨hp, gn, dn, tk, os⟩ :=
      fun q => B.iter prog w _ _ ⟨hp, gn, dn, tk, os⟩ _ hP q
    wp_walk using begun
    refine wpAny_stack_any fun st => wpAny_pure ?_
    split
    · rename_i c _ _ _ _ _
      cases (c == Value.type "enumerate") <;> (wp_walk using begun; exact ⟨_, rfl, h⟩)
    · wp_walk using begun
      exact ⟨_, rfl, h⟩
theorem enum_call {prog : Program} {w : World} {A : Around} {E : Value → Shared → Prop} {s : Shared} {v : Value} {ob : Obj} {P : Heap → Prop} {Q : Value → Shared → Prop} (B : Begins v ob P) (hP : P s.heap)
    (h : ∀ h', IsEnum h' (s.heap.objs.size + 1) s.heap.objs.size 0 .none → h'.get? s.heap.objs.size = some ob →
      (∀ b o, s.heap.get? b = some o → h'.get? b = some o) → Q (.ref (s.heap.objs.size + 1)) { s with heap := h' }) :
    wpAny (model prog w) A (call (.type "enumerate") [v]) Q E s := by
  refine callType_new F.called_enumerate (by decide) (F.typeCall_enumerate_1 _) (F.newCall_enumerate_1 _) (fun obj => F.args_object_init_2 obj _) F.entry_enumerate_new (enum_made B) ⟨hP, ?_⟩
  have hz : (s.heap.push ob).objs.size = s.heap.objs.size + 1 := Heap.size_push ..
  show _ ∧ _
  rw [hz]
  have he : IsEnum ((s.heap.push ob).push { cls := .type "enumerate", data := .fields #[.none, .bool false, .ref s.heap.objs.size, rawInt 0, .none, .none] }) (s.heap.objs.size + 1) s.heap.objs.size 0 .none := by
    have q := Heap.get?_push_size (s.heap.push ob) (o := { cls := .type "enumerate", data := .fields #[.none, .bool false, .ref s.heap.objs.size, rawInt 0, .none, .none] }) rfl
    rw [hz] at q
    exact q
  exact ⟨⟨_, he, rfl⟩, h _ he (Heap.get?_push_of_some _ (Heap.get?_push_size _ B.free)) fun b o x => Heap.get?_push_of_some _ (Heap.get?_push_of_some _ x)⟩
def iEn (K : PySem.W.Frag) (ta : TA) : TI := fun σ H R => ta σ H fun vs H1 => ∃ k a xs, vs = [.ref a] ∧ SqK K H1 k a xs ∧ R (ItE K k a) H1
theorem pi_en {X : Cx} {e : Expr} {ta : TA} {p pos tpos : Pos} {elts : List Expr} {kk : Nat} (hg : Gl X "enumerate") (hm : X.mg "enumerate" = none) (ha : PA X [e] ta) (hs : starEach [e] X.env = [(false, eval e X.env)]) :
    PI X (.Tuple elts kk tpos) (.Call (.Name "enumerate" p) [e] [] pos) (iEn X.K ta) := by
  refine ⟨fun pins s σ H R I h => ?_⟩
  refine Call_ (ld_blt I hg hm boot_enumerate (PyProof.Rows.callWith_type1 (thn (ha.run pos pins s σ H _ I h) fun us s1 ⟨vs, H1, I1, r1, q1⟩ => ?_) hs rfl))
  obtain ⟨k, a, xs, ex, hq, q⟩ := q1
  subst ex
  rw [Vals.ref1 r1]
  obtain ⟨its, rv, p', hz⟩ := seqK I1 hq
  refine enum_call (beginsK k a its.toArray) p' fun h' he hit hk => wpAny_pyIter_enum he ?_
  have I2 : Inv X pins σ H1 { s1 with heap := h' } := I1.kept (t' := s1.toks) hk
  refine ⟨s1.heap.objs.size + 1, [s1.heap.objs.size + 1, s1.heap.objs.size], _, _, H1, rfl, I2, turn_en k a (s1.heap.objs.size + 1) s1.heap.objs.size, ⟨⟨.none, he⟩, itK.new hit, Nat.succ_ne_self _, Nat.ne_of_lt hz, Nat.ne_of_gt (Nat.lt_succ_of_lt hz)⟩, fun b hb => ?_, q⟩
  have hle : s1.heap.objs.size ≤ b := by
    rcases List.mem_cons.mp hb with z | hb
    · rw [z]; exact Nat.le_add_right _ _
    · rcases List.mem_cons.mp hb with z | hb
      · rw [z]; exact Nat.le_refl _
      · cases hb
  exact I1.fpOk hle (I1.hok.fresh hle)

/-! ### zip -/
theorem nlt {N i j : Nat} (h : i < j) : N + i < N + j := Nat.add_lt_add_left h N
theorem nlt0 {N j : Nat} (h : 0 < j) : N < N + j := Nat.lt_add_of_pos_right h
def ItZ (K : PySem.W.Frag) (k l : Bool) (a b : Addr) : It :=
  ⟨fun i H => ∃ (xs ys : List V) (x y : V), SqK K H k a xs ∧ SqK K H l b ys ∧ xs[i]? = some x ∧ ys[i]? = some y,
    fun i H v H' => ∃ T x y, v = .ref T ∧ H T = none ∧ H' = upd H T (.tup [x, y]) ∧ (∀ xs, SqK K H k a xs → xs[i]? = some x) ∧ ∀ ys, SqK K H l b ys → ys[i]? = some y,
    fun i H => ∃ xs ys : List V, SqK K H k a xs ∧ SqK K H l b ys ∧ min xs.length ys.length = i⟩
theorem turn_zi {P : Program} {w : World} {K : PySem.W.Frag} {elts : List Expr} {kk : Nat} {tpos : Pos} (k l : Bool) (a b N : Addr) (la : a < N) (lb : b < N) :
    Turn P w K (.Tuple elts kk tpos) (ItZ K k l a b) [N + 4, N + 2, N + 3, N, N + 1] (N + 4) (fun i h => IsZip h (N + 4) (N + 2) (N + 3) .none ∧ IsTupOf2 h (N + 2) (.ref N) (.ref (N + 1)) ∧ (∃ x y, IsTupOf2 h (N + 3) x y) ∧ itK k h N a i ∧ itK l h (N + 1) b i) where
  mem := List.mem_cons_self
  obj := fun i h st c hc => by
    obtain ⟨hz, hTI, ⟨x, y, hTO⟩, h1, h2⟩ := st
    have e' : c = N + 4 ∨ c = N + 2 ∨ c = N + 3 ∨ c = N ∨ c = N + 1 := by simpa using hc
    rcases e' with q | q | q | q | q
    · rw [q]; exact ⟨_, hz, fun v q => nomatch q⟩
    · rw [q]; exact ⟨_, hTI, fun v q => nomatch q⟩
    · rw [q]; exact ⟨_, hTO, fun v q => nomatch q⟩
    · rw [q]; exact h1.look
    · rw [q]; exact h2.look
  keep := fun i h h' st kp => by
    obtain ⟨hz, hTI, ⟨x, y, hTO⟩, h1, h2⟩ := st
    exact ⟨kp _ (by simp) _ hz, kp _ (by simp) _ hTI, ⟨x, y, kp _ (by simp) _ hTO⟩, h1.at fun o q => kp _ (by simp) o q, h2.at fun o q => kp _ (by simp) o q⟩
  item := by
    intro X hP hw hK hc i pins s σ H E I hf st hg
    subst hP hw hK
    obtain ⟨hz, hTI, hTO, h1, h2⟩ := st
    obtain ⟨xs, ys, x, y, hqx, hqy, hx, hy⟩ := hg
    obtain ⟨its, rv, p, _⟩ := seqK I hqx
    obtain ⟨its2, rv2, p2, _⟩ := seqK I hqy
    obtain ⟨u, hu, ru⟩ := rv.get hx
    obtain ⟨u2, hu2, ru2⟩ := rv2.get hy
    have hlt : i < min its.toArray.size its2.toArray.size := by
      have q1 : i < its.toArray.size := by simpa using (List.getElem?_eq_some_iff.mp hu).1
      have q2 : i < its2.toArray.size := by simpa using (List.getElem?_eq_some_iff.mp hu2).1
      omega
    have S := zip_sep2 (N := N) (fp1 := [a]) (fp2 := [b]) (by simpa using la) (by simpa using lb)
    have W := GoesN.zip2 (prog := X.prog) (w := X.w) (A := X.A) (elts := elts) (x1 := kk) (pos := tpos) S (drawsK (A := X.A.in1) (I.ok.hd hc) k N a (Nat.ne_of_lt la) its.toArray)
      (drawsK (A := X.A.in1) (I.ok.hd hc) l (N + 1) b (Nat.ne_of_lt (Nat.lt_succ_of_lt lb)) its2.toArray)
    have hNz : N + 4 < s.heap.objs.size := Heap.lt_size hz
    refine W.goes i s (fun v s2 => ∃ x H', Inv X pins σ H' s2 ∧ RelV x v ∧ (ItZ X.K k l a b).yld i H x H' ∧ (IsZip s2.heap (N + 4) (N + 2) (N + 3) .none ∧ IsTupOf2 s2.heap (N + 2) (.ref N) (.ref (N + 1)) ∧ (∃ x y, IsTupOf2 s2.heap (N + 3) x y) ∧ itK k s2.heap N a (i + 1) ∧ itK l s2.heap (N + 1) b (i + 1)) ∧ ∀ c ∈ [N + 4, N + 2, N + 3, N, N + 1], H' c = none) E hlt ⟨hz, hTI, hTO, ⟨h1, p⟩, h2, p2⟩ fun v h' tk hY st' hk _ => ?_
    obtain ⟨T, y1, y2, rfl, hT, hy1, hy2, hTu⟩ := hY
    have ey1 : y1 = u := by
      have q : its.toArray[i]? = some u := by simpa using hu
      rw [q] at hy1; exact (Option.some.inj hy1).symm
    have ey2 : y2 = u2 := by
      have q : its2.toArray[i]? = some u2 := by simpa using hu2
      rw [q] at hy2; exact (Option.some.inj hy2).symm
    subst ey1 ey2
    have new : ObjOk X.prog X.w (upd H T (.tup [x, y])) h' T (.tup [x, y]) := is_two hTu ru ru2
    have I1 := I.turnedNew (t' := tk) (ch := [N + 4, N + 2, N + 3, N, N + 1]) (fun c ob hb q => hk c ob (fun z => hb (by
      rcases List.mem_cons.mp z with z | z
      · rw [z]; simp
      · rcases List.mem_cons.mp z with z | z
        · rw [z]; simp
        · rcases List.mem_cons.mp z with z | z
          · rw [z]; simp
          · rcases List.mem_cons.mp z with z | z
            · rw [z]; simp
            · cases z)) q) hf hT new
    refine ⟨.ref T, _, I1, rfl, ⟨T, x, y, rfl, I.hok.fresh hT, rfl, fun zs hzs => by rw [seqK_inj I hzs hqx]; exact hx, fun zs hzs => by rw [seqK_inj I hzs hqy]; exact hy⟩, ⟨st'.1, st'.2.1, st'.2.2.1, st'.2.2.2.1.1, st'.2.2.2.2.1⟩, fun c hcm => ?_⟩
    have hb' : c < s.heap.objs.size := by
      have e' : c = N + 4 ∨ c = N + 2 ∨ c = N + 3 ∨ c = N ∨ c = N + 1 := by simpa using hcm
      have hN4 : (N + 4 : Nat) < s.heap.objs.size := hNz
      rcases e' with q | q | q | q | q
      · rw [q]; exact hNz
      · rw [q]; exact Nat.lt_trans (nlt (by decide)) hN4
      · rw [q]; exact Nat.lt_trans (nlt (by decide)) hN4
      · rw [q]; exact Nat.lt_trans (nlt0 (by decide)) hN4
      · rw [q]; exact Nat.lt_trans (nlt (by decide)) hN4
    rw [upd_ne (Nat.ne_of_lt (Nat.lt_of_lt_of_le hb' hT))]
    exact (hf c hcm).1
  done := by
    intro X hP hw hK hc i pins s σ H E I hf st hg
    subst hP hw hK
    obtain ⟨hz, hTI, hTO, h1, h2⟩ := st
    obtain ⟨xs, ys, hqx, hqy, hend⟩ := hg
    obtain ⟨its, rv, p, _⟩ := seqK I hqx
    obtain ⟨its2, rv2, p2, _⟩ := seqK I hqy
    have l1 := rv.length
    have l2 := rv2.length
    have S := zip_sep2 (N := N) (fp1 := [a]) (fp2 := [b]) (by simpa using la) (by simpa using lb)
    have W := GoesN.zip2 (prog := X.prog) (w := X.w) (A := X.A) (elts := elts) (x1 := kk) (pos := tpos) S (drawsK (A := X.A.in1) (I.ok.hd hc) k N a (Nat.ne_of_lt la) its.toArray)
      (drawsK (A := X.A.in1) (I.ok.hd hc) l (N + 1) b (Nat.ne_of_lt (Nat.lt_succ_of_lt lb)) its2.toArray)
    have hn : min its.toArray.size its2.toArray.size = i := by rw [List.size_toArray, List.size_toArray, ← l1, ← l2]; exact hend
    refine W.stops s (fun s2 => Inv X pins σ H s2) E (by rw [hn]; exact ⟨hz, hTI, hTO, ⟨h1, p⟩, h2, p2⟩) fun h' tk hk _ => ?_
    refine I.turnedL (t' := tk) (ch := [N + 4, N + 2, N + 3, N, N + 1]) (fun c ob hb q => hk c ob (fun z => hb ?_) q) hf
    rcases List.mem_cons.mp z with z | z
    · rw [z]; simp
    · rcases List.mem_cons.mp z with z | z
      · rw [z]; simp
      · rcases List.mem_cons.mp z with z | z
        · rw [z]; simp
        · rcases List.mem_cons.mp z with z | z
          · rw [z]; simp
          · cases z
  self := fun A i s Q E st h => wpAny_pyIter_zip st.1 h
def iZi (K : PySem.W.Frag) (ta : TA) : TI := fun σ H R => ta σ H fun vs H1 => ∃ k l a b xs ys, vs = [.ref a, .ref b] ∧ SqK K H1 k a xs ∧ SqK K H1 l b ys ∧ R (ItZ K k l a b) H1
theorem pi_zi {X : Cx} {e e2 : Expr} {ta : TA} {p pos tpos : Pos} {elts : List Expr} {kk : Nat} (hg : Gl X "zip") (hm : X.mg "zip" = none) (ha : PA X [e, e2] ta)
    (hs : starEach [e, e2] X.env = (false, eval e X.env) :: starEach [e2] X.env) (hpl : (backTo pos (starEach [e2] X.env)).any (·.1) = false) :
    PI X (.Tuple elts kk tpos) (.Call (.Name "zip" p) [e, e2] [] pos) (iZi X.K ta) := by
  refine ⟨fun pins s σ H R I h => ?_⟩
  refine Call_ (ld_blt I hg hm PyProof.Rows.boot_zip (PyProof.Rows.callWith_type1 (thn (ha.run pos pins s σ H _ I h) fun us s1 ⟨vs, H1, I1, r1, q1⟩ => ?_) hs hpl))
  obtain ⟨k, l, a, b, xs, ys, ex, hqx, hqy, q⟩ := q1
  subst ex
  obtain ⟨u, v, rfl, ru, rv0⟩ := r1.two
  cases ru
  cases rv0
  obtain ⟨its, rv, p1, la⟩ := seqK I1 hqx
  obtain ⟨its2, rv2, p2, lb⟩ := seqK I1 hqy
  refine zip_begins2 (beginsK k a its.toArray) (beginsK l b its2.toArray) p1 p2 fun h' hz hTI hTO h1 h2 hsz hk => wpAny_pyIter_zip hz ?_
  have I2 : Inv X pins σ H1 { s1 with heap := h' } := I1.kept (t' := s1.toks) hk
  refine ⟨s1.heap.objs.size + 4, [s1.heap.objs.size + 4, s1.heap.objs.size + 2, s1.heap.objs.size + 3, s1.heap.objs.size, s1.heap.objs.size + 1], _, _, H1, rfl, I2, turn_zi k l a b s1.heap.objs.size la lb, ⟨hz, hTI, ⟨_, _, hTO⟩, itK.new h1, itK.new h2⟩, fun c hcm => ?_, q⟩
  have hle : s1.heap.objs.size ≤ c := by
    have e' : c = s1.heap.objs.size + 4 ∨ c = s1.heap.objs.size + 2 ∨ c = s1.heap.objs.size + 3 ∨ c = s1.heap.objs.size ∨ c = s1.heap.objs.size + 1 := by simpa using hcm
    rcases e' with z | z | z | z | z
    · rw [z]; exact Nat.le_add_right _ _
    · rw [z]; exact Nat.le_add_right _ _
    · rw [z]; exact Nat.le_add_right _ _
    · rw [z]; exact Nat.le_refl _
    · rw [z]; exact Nat.le_add_right _ _
  exact I1.fpOk hle (I1.hok.fresh hle)
end DP

/-! the keys of a dict: walked, sorted -/
namespace DP
open PySem PySem.Spec PyProof.Rows L2
section
variable {prog : Program} {w : World} {A : Around} {E : Value → Shared → Prop} {s : Shared}
/-- d.keys(): a view -/
theorem view_made {d : Addr} {es : Array DictEntry} {ep : Nat} (hd : (d == sysModules) = false) : MeetsIn prog w (Builtin.«dict.keys» ⟨[.ref d], []⟩) (fun _ R s => s.heap.DictRaw d es ep ∧ R (.ok (.ret (.ref s.heap.objs.size))) { s with heap := s.heap.push { cls := .type "dict_keys", data := .fields #[.ref d] } }) :=
  .of_wp fun A R s hh => by
    obtain ⟨hm, h⟩ := hh
    refine wpAny_bind (by unfold Builtin.Dict.noArgs; refine wpAny_bind (wpAny_notOrdered_dict hm.typeIs ?_); show wpAny _ _ (pure d) _ _ s; refine wpAny_pure ?_; show wpAny _ _ (Builtin.Dict.showsAll d >>= _) _ _ s; unfold Builtin.Dict.showsAll; rw [if_neg (by rw [hd]; exact Bool.false_ne_true)]; exact wpAny_bind (wpAny_pure (wpAny_bind (wpAny_newObj_type (wpAny_pure ⟨_, rfl, h⟩)))))
end
theorem raw_dict {s : Shared} {d : Addr} {o : Obj} {es : Array DictEntry} {ep : Nat} (ho : s.heap.get? d = some o) (hx : o.ExactDict) (hdt : o.data = .dict es ep) : s.heap.DictRaw d es ep ∧ ∀ a, Value.ref d = Value.ref a → ∃ ob, s.heap.get? a = some ob ∧ ob.dict = none := ⟨⟨o, ho, hx, hdt⟩, fun a e => by cases e; exact ⟨o, ho, hx.2.1⟩⟩
/-! ### dicts whose keys are tuples of ints: the rules -/
section
variable {X : Cx} {pins : List (Addr × Obj)} {σ : L2.St} {H G : Hp} {s : Shared} {a b : Addr} {xs : Ens} {kvs : List (List Int × D)} {k : List Int} {A : Around} {E : Value → Shared → Prop}
theorem DR.ty {h : Heap} (x : DR h a xs) : ∃ o, h.get? a = some o ∧ o.ExactDict := let ⟨_, _, o, _, _, e, h2, _⟩ := x; ⟨o, e, h2⟩
theorem dx_ty (I : Inv X pins σ H s) (r : Rd H a (DO a xs)) : s.TypeIs (.ref a) "dict" ∧ ∀ c, Value.ref a = .ref c → ∃ ob, s.heap.get? c = some ob ∧ ob.dict = none := by
  obtain ⟨o, e, h2⟩ := (DO_rd I.hok r).ty
  exact ⟨⟨o, e, h2.1⟩, fun c q => by cases q; exact ⟨o, e, h2.2.1⟩⟩
/-- what is known at a dict's key -/
structure KAt (H : Hp) (a b : Addr) (kvs : List (List Int × D)) (k : List Int) (xs : Ens) (G : Hp) : Prop where
  rd : Rd H a (DO a xs)
  sub : Same G H
  rel : KvR G xs kvs
  key : TF G b (k.map V.int)
theorem KAt.dd (g : KAt H a b kvs k xs G) (I : Inv X pins σ H s) : s.heap.DictOfH (tupleKind (PySem.intKind X.prog X.w)) a xs := (DO_rd I.hok g.rd).of I.hok g.sub g.rel
theorem dx_getItem {d : D} {Q : Value → Shared → Prop} (hu : A.units + 1 < cLine) (I : Inv X pins σ H s) (g : KAt H a b kvs k xs G) (l : valD kvs k = some d) (h : ∀ v w' s', Inv X pins σ H s' → RelV v w' → Dr G v d → Q w' s') :
    wpAny (model X.prog X.w) A (getItem (.ref a) (.ref b)) Q E s := by
  rcases g.rel.val k with ⟨_, z⟩ | ⟨p, v, d', e1, e2, e3, e4⟩
  · rw [l] at z; cases z
  · rw [l] at e3
    cases e3
    exact wpAny_getItem_heap (tupleKind_room_in1 hu) (tf_key I.hok (g.key.mono g.sub)) (g.dd I) e1 (h v _ _ (I.tok _) e2 e4)
theorem dx_in {Q : Value → Shared → Prop} (hu : A.units + 1 < cLine) (I : Inv X pins σ H s) (g : KAt H a b kvs k xs G) (h : ∀ s', Inv X pins σ H s' → Q (.bool (valD kvs k).isSome) s') :
    wpAny (model X.prog X.w) A (compareOp .In (.ref b) (.ref a)) Q E s := by
  obtain ⟨_, hd, _⟩ := DO_rd I.hok g.rd
  refine wpAny_in_heap (tupleKind_room_in1 hu) (tf_key I.hok (g.key.mono g.sub)) hd (g.dd I) ?_
  rw [g.rel.some]
  exact h _ (I.tok _)
theorem dx_nin {Q : Value → Shared → Prop} (hu : A.units + 1 < cLine) (I : Inv X pins σ H s) (g : KAt H a b kvs k xs G) (h : ∀ s', Inv X pins σ H s' → Q (.bool (!(valD kvs k).isSome)) s') :
    wpAny (model X.prog X.w) A (compareOp .NotIn (.ref b) (.ref a)) Q E s := by
  obtain ⟨_, hd, _⟩ := DO_rd I.hok g.rd
  refine wpAny_notIn_heap (tupleKind_room_in1 hu) (tf_key I.hok (g.key.mono g.sub)) hd (g.dd I) ?_
  rw [g.rel.some]
  exact h _ (I.tok _)
theorem stored_len (xs : Ens) (k : List Int) (b : Addr) (v : Value) : (storedH xs k b v).length ≤ xs.length + 1 := by
  unfold storedH
  split
  · rw [List.length_map]; omega
  · rw [List.length_append]; simp
theorem dx_setItem {d : D} {v : V} {u : Value} {Q : Unit → Shared → Prop} (hu : A.units + 1 < cLine) (I : Inv X pins σ H s) (g : KAt H a b kvs k xs G) (hm : H a = some (DO a xs)) (hz : xs.length < sizeLine) (rv : RelV v u) (hv : Dr G v d)
    (h : ∀ s' ys, Inv X pins σ (upd H a (DO a ys)) s' → KvR G ys (putD kvs k d) → Q () s') : wpAny (model X.prog X.w) A (setItem (.ref a) (.ref b) u) Q E s := by
  obtain ⟨z, hd, _⟩ := DO_rd I.hok g.rd
  refine wpAny_setItem_heap (hsz := z) (tupleKind_room_in1 hu) (tf_key I.hok (g.key.mono g.sub)) (g.dd I) fun h' dd' hs => h _ _ ?_ (g.rel.put g.key rv hv)
  obtain ⟨o, es, ep, e1, e2, e3, e4, _, e5⟩ := dd'
  have z2 := stored_len xs k b u
  exact d_write I (by rw [hm]; exact True.intro) hs ⟨o, e1⟩ (DO_ok ⟨by omega, hd, o, es, ep, e1, e2, e3, e4, e5⟩)
theorem dx_get2 {d : D} {y : V} {r : Value} {Q : Value → Shared → Prop} (hu : A.units + 1 < cLine) (I : Inv X pins σ H s) (g : KAt H a b kvs k xs G) (ry : RelV y r) (hy : Dr G y d) (h : ∀ v w' s', Inv X pins σ H s' → RelV v w' → Dr G v ((valD kvs k).getD d) → Q w' s') :
    wpAny (model X.prog X.w) A (call (.builtin "dict.get") [.ref a, .ref b, r]) Q E s := by
  obtain ⟨_, hd, _⟩ := DO_rd I.hok g.rd
  refine call_meetsIn PySem.F.slot_dict_get (dx_ty I g.rd).1 PySem.F.entry_dict_get (PySem.F.args_dict_get_3 _ _ _) (meetsH_dict_get_default (tupleKind (PySem.intKind X.prog X.w)) a b hd r)
    ⟨tupleKind_room_in1 hu, k, xs, tf_key I.hok (g.key.mono g.sub), g.dd I, ?_⟩
  rcases g.rel.val k with ⟨z1, z2⟩ | ⟨p, v, d', e1, e2, e3, e4⟩
  · exact h y _ _ (I.tok _) (by rw [z1]; exact ry) (by rw [z2]; exact hy)
  · exact h v _ _ (I.tok _) (by rw [e1]; exact e2) (by rw [e3]; exact e4)
end
section
variable {X : Cx} {o e f i value : Expr} {pos pos' apos cpos : Pos} {td ty tx tv : TE}
/-- {} -/
theorem pe_dnewX : PE X (.Dict [] [] pos) (fun _ H Q => ∀ p, H p = none → Q (.ref p) (upd H p (DO p []))) := ⟨fun pins s σ H Q I h => by
  have hs : (s.heap.objs.size == sysModules) = false := beq_eq_false_iff_ne.mpr (Nat.ne_of_gt I.big)
  have x : DR (s.heap.push { cls := .type "dict", data := .dict #[] }) s.heap.objs.size [] := ⟨Nat.zero_le _, hs, _, #[], 0, Heap.get?_push_size _ rfl, ⟨rfl, rfl, rfl⟩, rfl, rfl, List.nodup_nil⟩
  exact wpAny_Dict_empty ⟨.ref s.heap.objs.size, _, I.laid (a := s.heap.objs.size) (o := DO s.heap.objs.size []) (t' := s.toks) (fun _ _ q => Heap.get?_push_of_some _ q) (Nat.le_refl _) (DO_ok x), rfl, h _ (I.hok.fresh (Nat.le_refl _))⟩⟩
theorem pe_dgetX (hu : X.A.units + 1 < cLine) (ho : PE X o td) (hi : PE X i ty) (hs : NoSl i) : PE X (.Subscript o i pos) (fun σ H Q => td σ H fun x H1 => ty σ H1 fun y H2 =>
    ∃ a b kvs k xs G d, x = .ref a ∧ y = .ref b ∧ KAt H2 a b kvs k xs G ∧ valD kvs k = some d ∧ ∀ v, Dr G v d → Q v H2) := by
  refine ⟨fun pins s σ H Q I h => subD_of PySem.F.slot_dict_getitem.lookup hs (thn (ho.run pins s σ H _ I h) fun u s1 ⟨x, H1, I1, rx, q1⟩ => thn (hi.run pins s1 σ H1 _ I1 q1) fun w s2 ⟨y, H2, I2, ry, a, b, kvs, k, xs, G, d, ex, ey, g, l, q2⟩ => ?_)⟩
  subst ex ey
  obtain rfl : u = Value.ref a := rx
  obtain rfl : w = Value.ref b := ry
  exact ⟨(dx_ty I2 g.rd).1, dx_getItem hu I2 g l fun v w' s3 I3 rw' hd => ⟨v, H2, I3, rw', q2 v hd⟩⟩
def tDinX (f : Bool → Bool) (ty td : TE) : TE := fun σ H Q => ty σ H fun y H1 => td σ H1 fun x H2 => ∃ a b kvs k xs G, x = .ref a ∧ y = .ref b ∧ KAt H2 a b kvs k xs G ∧ Q (.bl (f (valD kvs k).isSome)) H2
theorem pc_dinX (hu : X.A.units + 1 < cLine) (hi : PE X i ty) (ho : PE X o td) : PC X .In i o (tDinX id ty td) := by
  refine ⟨fun pins s σ H Q I h => thn (hi.run pins s σ H _ I h) fun w s1 ⟨y, H1, I1, ry, q1⟩ => thn (ho.run pins s1 σ H1 _ I1 q1) fun u s2 ⟨x, H2, I2, rx, a, b, kvs, k, xs, G, ex, ey, g, q2⟩ => ?_⟩
  subst ex ey
  obtain rfl : u = Value.ref a := rx
  obtain rfl : w = Value.ref b := ry
  exact dx_in hu I2 g fun s3 I3 => ⟨.bl _, H2, I3, rfl, q2⟩
theorem pc_dninX (hu : X.A.units + 1 < cLine) (hi : PE X i ty) (ho : PE X o td) : PC X .NotIn i o (tDinX not ty td) := by
  refine ⟨fun pins s σ H Q I h => thn (hi.run pins s σ H _ I h) fun w s1 ⟨y, H1, I1, ry, q1⟩ => thn (ho.run pins s1 σ H1 _ I1 q1) fun u s2 ⟨x, H2, I2, rx, a, b, kvs, k, xs, G, ex, ey, g, q2⟩ => ?_⟩
  subst ex ey
  obtain rfl : u = Value.ref a := rx
  obtain rfl : w = Value.ref b := ry
  exact dx_nin hu I2 g fun s3 I3 => ⟨.bl _, H2, I3, rfl, q2⟩
def sDPutX (td ty tv : TE) : TS := fun D σ H => tv σ H fun v H1 => td σ H1 fun x H2 => ty σ H2 fun y H3 => ∃ a b kvs k xs G d, x = .ref a ∧ y = .ref b ∧ KAt H3 a b kvs k xs G ∧ H3 a = some (DO a xs) ∧ xs.length < sizeLine ∧ Dr G v d ∧
  ∀ ys, KvR G ys (putD kvs k d) → D.nx σ (upd H3 a (DO a ys))
theorem ps_dputX (hu : X.A.units + 1 < cLine) (ho : PE X o td) (hi : PE X i ty) (hv : PE X value tv) (hs : swapsWith value (some (.Subscript o i pos')) pos.line X.env = pure false) :
    PS X (.Assign [.Subscript o i pos'] value pos) (sDPutX td ty tv) := by
  refine ⟨fun pins s σ H D I h => wpAny_Assign_Subscript (thn (hv.run pins s σ H _ I h) fun r s1 ⟨v, H1, I1, rv, q1⟩ => thn (ho.run pins s1 σ H1 _ I1 q1) fun u s2 ⟨x, H2, I2, rx, q2⟩ => thn (hi.run pins s2 σ H2 _ I2 q2) fun w s3 ⟨y, H3, I3, ry, a, b, kvs, k, xs, G, d, ex, ey, g, hm, hz, hd, q3⟩ => ?_) hs⟩
  subst ex ey
  obtain rfl : u = Value.ref a := rx
  obtain rfl : w = Value.ref b := ry
  exact dx_setItem hu I3 g hm hz rv hd fun s4 ys I4 r4 => ⟨σ, _, I4, q3 ys r4⟩
theorem pe_dget2X (hu : X.A.units + 1 < cLine) (ho : PE X o td) (he : PE X e ty) (hf : PE X f tx) (m : M2 X o "get" apos e f cpos) : PE X (.Call (.Attribute o "get" apos) [e, f] [] cpos) (fun σ H Q =>
    td σ H fun x H1 => ∃ a ys, x = .ref a ∧ Rd H1 a (DO a ys) ∧ ty σ H1 fun y H2 => tx σ H2 fun z H3 => ∃ b kvs k xs G d, y = .ref b ∧ KAt H3 a b kvs k xs G ∧ Dr G z d ∧ ∀ v, Dr G v ((valD kvs k).getD d) → Q v H3) := by
  refine ⟨fun pins s σ H Q I h => wpAny_Call_method m.base m.few m.line PySem.F.plainAttrs_dict PySem.F.slot_dict_get PySem.F.type_dict_get (thn (ho.run pins s σ H _ I h) fun u s1 ⟨x, H1, I1, rx, a, ys, ex, d, q1⟩ => ?_)⟩
  subst ex
  obtain rfl : u = Value.ref a := rx
  refine ⟨(dx_ty I1 d).1, (dx_ty I1 d).2, ?_⟩
  rw [m.trees]
  refine Calls.callWith_builtin rfl (Calls.evalArgs_plain (Calls.spliced_cons (thn (he.run pins s1 σ H1 _ I1 q1) fun iv s2 ⟨y, H2, I2, ry, q2⟩ =>
    Calls.spliced_cons (thn (hf.run pins s2 σ H2 _ I2 q2) fun fv s3 ⟨z, H3, I3, rz, b, kvs, k, xs, G, dd, ey, g, hz, q3⟩ => Calls.spliced_nil ?_))))
  subst ey
  obtain rfl : iv = Value.ref b := ry
  exact dx_get2 hu I3 g rz hz fun v w' s4 I4 rw' hd => ⟨v, H3, I4, rw', q3 v hd⟩
theorem call_lenX : CallR X (.builtin "len") (fun vs H Q => ∃ a kvs xs G, vs = [.ref a] ∧ Rd H a (DO a xs) ∧ Same G H ∧ KvR G xs kvs ∧ Q (.int (kvs.length : Nat)) H) := by
  intro pins s σ H vs us Q I r h
  obtain ⟨a, kvs, xs, G, rfl, hr, sG, hk, q⟩ := h
  rw [Vals.ref1 r]
  have x := DO_rd I.hok hr
  obtain ⟨z, hd, _⟩ := id x
  refine call_len_dictH hd (x.of I.hok sG hk) (by rw [sizeLine_eq] at z; omega) ?_
  rw [hk.length]
  exact ⟨.int (kvs.length : Nat), H, I.tok _, ⟨_, rfl⟩, q⟩
end

/-! ### the keys in their order -/
def ItD (d : Addr) (o : Obj) (xs : Ens) : It :=
  ⟨fun i H => H d = some (.frz o (DO d xs)) ∧ i < xs.length, fun i H x H' => H' = H ∧ ∃ p, xs[i]? = some p ∧ x = .ref p.2.1, fun i H => H d = some (.frz o (DO d xs)) ∧ xs.length ≤ i⟩
theorem frzX {X : Cx} {pins : List (Addr × Obj)} {σ : L2.St} {H : Hp} {s : Shared} {d : Addr} {o : Obj} {xs : Ens} (I : Inv X pins σ H s) (h : H d = some (.frz o (DO d xs))) :
    (d == sysModules) = false ∧ s.heap.get? d = some o ∧ o.ExactDict ∧ ∃ (es : Array DictEntry) (ep : Nat), o.data = .dict es ep ∧ es.size = xs.length ∧ es.toList = xs.map ent ∧ ∀ (i : Nat) (p : List Int × Addr × Value), xs[i]? = some p → es[i]? = some (ent p) := by
  obtain ⟨hd, x, _, _⟩ := I.hok d _ h
  obtain ⟨_, hs, o', es, ep, ho, hx, hdt, he, _⟩ := (show DR s.heap d xs from x)
  rw [hd] at ho
  cases ho
  refine ⟨hs, hd, hx, es, ep, hdt, by rw [← Array.length_toList, he, List.length_map], he, fun i p e => ?_⟩
  rw [← Array.getElem?_toList, he, List.getElem?_map, e]; rfl
section
variable {P : Program} {w : World} {K : PySem.W.Frag} {tg : Expr} {d : Addr} {o : Obj} {es : Array DictEntry} {ep : Nat} {xs : Ens}
theorem turn_keysX (it : Addr) (hod : o.data = .dict es ep) : Turn P w K tg (ItD d o xs) [it] it (fun i h => h.IsKeyIter it d i xs.length ep) where
  mem := by simp
  obj := fun i h st b hb => by
    obtain rfl : b = it := by simpa using hb
    obtain ⟨oi, e, c, dd⟩ := st
    exact ⟨oi, e, fun v z => by rw [dd] at z; cases z⟩
  keep := fun i h h' st k => st.at fun oi e => k it (by simp) oi e
  item := by
    intro X hP hw hK hc i pins s σ H E I hf st hg
    subst hP hw hK
    obtain ⟨hd, hi⟩ := hg
    obtain ⟨f0, f1, f2, f3, f4, f5⟩ := hf it (by simp)
    obtain ⟨hs, hgd, hx, es', ep', hdt, hsz, _, en⟩ := frzX I hd
    obtain ⟨rfl, rfl⟩ := dict_ep hod hdt
    have hp : xs[i]? = some xs[i] := List.getElem?_eq_getElem hi
    refine next_key_item st hgd hdt hsz (en i _ hp) fun h' st' sb => ?_
    have I1 : Inv X pins σ H { s with heap := h' } := I.turned (t' := s.toks) (fun b ob hb e => (sb.2 b hb).trans e) f0 f1 f3 f4 f5
    obtain ⟨oi, e, c, dd⟩ := id st'
    exact ⟨_, rfl, go_of (s := { s with heap := h' }) e c dd (by decide) ⟨.ref xs[i].2.1, H, I1, rfl, ⟨rfl, _, hp, rfl⟩, st', fun b hb => (hf b hb).1⟩⟩
  done := by
    intro X hP hw hK hc i pins s σ H E I hf st hg
    subst hP hw hK
    obtain ⟨hd, hi⟩ := hg
    obtain ⟨f0, f1, f2, f3, f4, f5⟩ := hf it (by simp)
    obtain ⟨hs, hgd, hx, es', ep', hdt, hsz, _, en⟩ := frzX I hd
    obtain ⟨rfl, rfl⟩ := dict_ep hod hdt
    exact next_key_end (I.ok.hd hc) st hgd hdt hsz hi fun h' eb => ⟨rfl, I.turned (t' := s.toks) (fun b ob hb e => eb b ob hb e) f0 f1 f3 f4 f5⟩
  self := fun A i s Q E st h => by
    refine wpAny_pyIter_slot st.typeIs F.slot_dict_keyiterator_iter (wpAny_call_entry F.slot_dict_keyiterator_iter st.typeIs F.entry_dict_keyiterator_iter ?_ (F.args_dict_keyiterator_iter_1 _))
    refine (wpAny_pure ?_ : wpAny _ _ (ret (.ref it)) _ _ s)
    exact ⟨_, rfl, "dict_keyiterator", _, st.typeIs, F.slot_dict_keyiterator_next.lookup, h⟩
end
section
variable {X : Cx} {tg e : Expr} {td : TE} {apos cpos : Pos}
/-- for .. in d.keys(), d a dict of tuple keys: from then on it is never changed -/
def iKeysT (td : TE) : TI := fun σ H R => td σ H fun x H1 => ∃ d xs, x = .ref d ∧ ((∃ o, H1 d = some (.frz o (DO d xs)) ∧ R (ItD d o xs) H1) ∨ (H1 d = some (DO d xs) ∧ ∀ o, R (ItD d o xs) (upd H1 d (.frz o (DO d xs)))))
theorem pi_keysT (he : PE X e td) (hbase : attributeBase e (Str.ofString "keys") X.env (eval e X.env) = eval e X.env) (hline : (apos.endLine == cpos.line) = true) : PI X tg (.Call (.Attribute e (Str.ofString "keys") apos) [] [] cpos) (iKeysT td) := by
  refine ⟨fun pins s σ H R I h => wpAny_Call_method (T := "dict") (id := "dict.keys") hbase rfl hline PySem.F.plainAttrs_dict PySem.F.slot_dict_keys PySem.F.type_dict_keys (thn (he.run pins s σ H _ I h) fun u s1 ⟨x, H1, I1, rx, d, xs, ex, q⟩ => ?_)⟩
  subst ex
  obtain rfl : u = Value.ref d := rx
  have go : ∃ H2 o, Inv X pins σ H2 s1 ∧ H2 d = some (.frz o (DO d xs)) ∧ R (ItD d o xs) H2 := by
    rcases q with ⟨o, hd, q⟩ | ⟨hd, q⟩
    · exact ⟨H1, o, I1, hd, q⟩
    · obtain ⟨o, I2⟩ := I1.lock hd trivial
      exact ⟨_, o, I2, upd_same, q o⟩
  obtain ⟨H2, o, I2, hd, q⟩ := go
  obtain ⟨hs, hgd, hx, es, ep, hdt, hsz, _, en⟩ := frzX I2 hd
  obtain ⟨raw, nd⟩ := raw_dict hgd hx hdt
  refine ⟨raw.typeIs, nd, ?_⟩
  have I3 : Inv X pins σ H2 { s1 with heap := s1.heap.push { cls := .type "dict_keys", data := .fields #[.ref d] } } := I2.kept (t' := s1.toks) fun b ob q => Heap.get?_push_of_some _ q
  have fin : wpAny (model X.prog X.w) X.A (pyIter (.ref s1.heap.objs.size)) (PIE X pins σ tg R) X.xe { s1 with heap := s1.heap.push { cls := .type "dict_keys", data := .fields #[.ref d] } } := by
    refine wpAny_pyIter_keys_raw (d := d) ⟨_, Heap.get?_push_size _ rfl, rfl, rfl⟩ (raw.push _) (pi_one (tk := s1.toks) I3 _ (turn_keysX _ hdt) ⟨_, Heap.get?_push_size _ rfl, rfl, ?_⟩ q)
    rw [hsz] <;> rfl
  show wpAny _ _ (callWith cpos (.builtin "dict.keys") [.ref d] [] []) _ X.xe s1
  exact method_meetsIn PySem.F.slot_dict_keys PySem.F.entry_dict_keys rfl (PySem.evalArgs_none ⟨rfl, raw.typeIs, PySem.F.args_dict_keys_1 _, _, view_made hs, ⟨raw, fin⟩⟩)
end
/-! ### sorted(d.keys()) -/
def viewO (p d : Addr) : HO := .ext fun h => PySem.W.KdlKeysView h p d
theorem viewO_ok {P : Program} {w : World} {H : Hp} {h : Heap} {p d : Addr} (e : PySem.W.KdlKeysView h p d) : ObjOk P w H h p (viewO p d) := by
  obtain ⟨o, ho, r⟩ := e
  exact ⟨⟨o, ho, r⟩, ⟨o, ho⟩, fun h1 h2 x k => by obtain ⟨o, ho, r⟩ := x; exact ⟨o, k o ho, r⟩⟩
def rKeysT : V → List V → Hp → VK → Prop := fun x xs H Q => ∃ (a : Addr) (ys : Ens), x = .ref a ∧ xs = [] ∧ H a = some (DO a ys) ∧ ∀ p, H p = none → Q (.ref p) (upd H p (viewO p a))
theorem keys_drs {G : Hp} : ∀ {xs : Ens} {kvs : List (List Int × D)}, KvR G xs kvs → Vals (xs.map fun x => V.ref x.2.1) (xs.map fun x => Value.ref x.2.1) ∧ Drs G (xs.map fun x => V.ref x.2.1) (keysD kvs)
  | _, _, .nil => ⟨.nil, .nil⟩
  | _, _, .cons k t _ _ r => by
    obtain ⟨h1, h2⟩ := keys_drs r
    exact ⟨.cons rfl h1, .cons (.tup t (Drs.ints k)) h2⟩
theorem ints_no {h : Heap} : ∀ {ns : List Int} {us : List Value} {as : List Addr}, ReadsAll h us (ns.map .int) as → as = []
  | [], _, _, r => by cases r; rfl
  | n :: ns, _, _, r => by
    cases r with
    | cons h1 h2 => cases h1; rw [ints_no h2]; rfl
theorem keys_no {h : Heap} : ∀ {kvs : List (List Int × D)} {us : List Value} {as : List Addr}, ReadsAll h us (keysD kvs) as → PySem.W.EachIs (fun v d => Reads h v d []) us (keysD kvs)
  | [], _, _, r => by cases r; exact .nil
  | p :: kvs, _, _, r => by
    cases r with
    | cons h1 h2 =>
      refine .cons ?_ (keys_no h2)
      cases h1 with
      | tuple a b c d =>
        have := ints_no d
        subst this
        exact .tuple a b c d
section
variable {X : Cx}
theorem mt_keysT : MtR X "dict.keys" rKeysT := by
  intro pins s σ H x xs v us Q I rx rxs h
  obtain ⟨a, ys, rfl, rfl, ha, q⟩ := h
  cases rx
  cases rxs
  obtain ⟨z, hd, o, es, ep, ho, hx, hdat, _⟩ := DO_rd I.hok (.inl ha)
  obtain ⟨raw, _⟩ := raw_dict ho hx hdat
  refine call_meetsIn PySem.F.slot_dict_keys raw.typeIs PySem.F.entry_dict_keys (PySem.F.args_dict_keys_1 _) (view_made hd) ⟨raw, ?_⟩
  have hf : H s.heap.objs.size = none := I.hok.fresh (Nat.le_refl _)
  exact ⟨.ref s.heap.objs.size, upd H s.heap.objs.size (viewO s.heap.objs.size a), I.laid (t' := s.toks) (fun b u e => Heap.get?_push_of_some _ e) (Nat.le_refl _) (viewO_ok ⟨_, Heap.get?_push_size _ rfl, rfl, rfl⟩), rfl, q _ hf⟩
theorem pe_dkeysX {e : Expr} {td : TE} {ap cp : Pos} (he : PE X e td) (hbase : attributeBase e (Str.ofString "keys") X.env (eval e X.env) = eval e X.env) (hl : (ap.endLine == cp.line) = true) : PE X (.Call (.Attribute e (Str.ofString "keys") ap) [] [] cp) (fun σ H Q => td σ H fun x H1 => rKeysT x [] H1 Q) := by
  refine ⟨fun pins s σ H Q I h => wpAny_Call_method0_late hbase hl (thn (he.run pins s σ H _ I h) fun v s1 ⟨x, H1, I1, r1, q1⟩ => ?_)⟩
  obtain ⟨a, ys, rfl, e0, ha, q⟩ := id q1
  obtain rfl : v = Value.ref a := r1
  obtain ⟨h1, h2⟩ := dx_ty I1 (.inl ha)
  exact ⟨"dict", "dict.keys", PySem.F.plainAttrs_dict, PySem.F.slot_dict_keys, PySem.F.type_dict_keys, h1, h2, Calls.callWith_builtin rfl (PySem.evalArgs_none (mt_keysT pins s1 σ H1 (.ref a) [] (.ref a) [] Q I1 rfl .nil q1))⟩
def rSortV : List V → Hp → VK → Prop := fun vs H Q => ∃ p d xs G kvs, vs = [V.ref p] ∧ H p = some (viewO p d) ∧ H d = some (DO d xs) ∧ Same G H ∧ KvR G xs kvs ∧ okSrt (keysD kvs) = true ∧ ∀ v H', SvN G H v (.own (srtD (keysD kvs))) H' → Q v H'
theorem cr_sortV (hc : X.calm = true) (hu : X.A.units + 70 < cLine) : CallR X (.builtin "sorted") rSortV := by
  intro pins s σ H vs us Q I r h
  obtain ⟨p, d, xs, G, kvs, rfl, hp, hd, sG, hK, hz, q⟩ := h
  rw [Vals.ref1 r]
  have hv : PySem.W.KdlKeysView s.heap p d := (I.hok p _ hp).1
  obtain ⟨hlen, hsys, o, es, ep, ho, hx, hdt, hes, _⟩ := DO_rd I.hok (.inl hd)
  obtain ⟨raw, _⟩ := raw_dict ho hx hdt
  have hh := I.ok.hd hc
  have n1 : es.size = xs.length := by have := congrArg List.length hes; simpa using this
  have n3 : xs.length = kvs.length := hK.length
  have nz : es.size ≤ sizeLine := by omega
  obtain ⟨v1, d1⟩ := keys_drs hK
  have hes2 : es.toList.map (·.key) = xs.map fun x => Value.ref x.2.1 := by rw [hes, List.map_map]; rfl
  refine Calls.call_function_entry kind_sorted plain_sorted entry_sorted (args_sorted1 _) ?_
  unfold Builtin.«sorted»; refine wpAny_bind (m := checkCount "sorted" 1 1 _) (wpAny_pure (wpAny_bind (PySem.W.kdu_collect (A := X.A.in1) (KdlSrc.rawKeys (prog := X.prog) (w := X.w) (r := p) (d := d) (es := es) (ep := ep)) hh ⟨hv, raw⟩ nz fun h' tk acc hk hacc => ?_)))
  have hl : acc.toList = xs.map fun x => Value.ref x.2.1 := by
    rw [← hes2]
    apply List.ext_getElem?
    intro j
    by_cases c : j < es.size
    · have hj : j < acc.size := by rw [hacc.1]; exact c
      obtain ⟨hi, e⟩ := hacc.2 j acc[j] (Array.getElem?_eq_getElem hj)
      rw [Array.getElem?_toList, Array.getElem?_eq_getElem hj, e, List.getElem?_map, Array.getElem?_toList, Array.getElem?_eq_getElem hi]; rfl
    · have c2 : es.size ≤ j := Nat.le_of_not_lt c
      rw [List.getElem?_eq_none (by rw [Array.length_toList, hacc.1]; exact c2), List.getElem?_eq_none (by rw [List.length_map, Array.length_toList]; exact c2)]
  rw [hl]
  refine wpAny_bind (wpAny_newList ?_ (by rw [List.length_map]; omega))
  have hobj : (h'.push { cls := .type "list", data := .seq (xs.map fun x => Value.ref x.2.1).toArray }).get? h'.objs.size = some (seqObj "list" (xs.map fun x => Value.ref x.2.1).toArray 0) := Heap.get?_push_size _ rfl
  have old : ∀ b ob, s.heap.get? b = some ob → (h'.push { cls := .type "list", data := .seq (xs.map fun x => Value.ref x.2.1).toArray }).get? b = some ob ∧ b ≠ h'.objs.size := fun b ob e => ⟨Heap.get?_push_of_some _ (hk b ob e), Nat.ne_of_lt (Heap.lt_size (hk b ob e))⟩
  have I1 : Inv X pins σ H { s with heap := h', toks := tk } := I.kept hk
  have old1 : ∀ b ob, h'.get? b = some ob → (h'.push { cls := .type "list", data := .seq (xs.map fun x => Value.ref x.2.1).toArray }).get? b = some ob ∧ b ≠ h'.objs.size := fun b ob e => ⟨Heap.get?_push_of_some _ e, Nat.ne_of_lt (Heap.lt_size e)⟩
  have fin : ∀ (out : List Value) (ys : List V) (zs : List D), out.length = xs.length → Vals ys out → Drs G ys zs → zs = srtD (keysD kvs) → EP X pins σ Q (.ref h'.objs.size) { s with heap := sortedHeap (h'.push { cls := .type "list", data := .seq (xs.map fun x => Value.ref x.2.1).toArray }) h'.objs.size (xs.map fun x => Value.ref x.2.1) out.toArray, toks := tk } := by
    intro out ys zs ho rv ra ez
    subst ez
    obtain ⟨ep2, he2⟩ := PyProof.Rows.sortedHeap_at (vs := xs.map fun x => Value.ref x.2.1) (out := out.toArray) hobj
    have np : H h'.objs.size = none := I1.hok.fresh (Nat.le_refl _)
    refine ⟨.ref _, upd H h'.objs.size (.lst ys), I1.laid (t' := tk) (fun b ob e => ?_) (Nat.le_refl _) ⟨by rw [rv.length]; omega, out, ep2, rv, he2⟩, rfl, q _ _ ⟨G, Same.refl _, sG.trans (same_upd np), same_upd np, fun _ _ _ g _ => g, _, ys, rfl, np, sG.free np, upd_same, ra⟩⟩
    obtain ⟨e1, e2⟩ := old1 b ob e
    rw [PyProof.Rows.sortedHeap_old e2 (Heap.lt_size e1)]; exact e1
  have hsort : ∀ E' : Value → Shared → Prop, wpAny (model X.prog X.w) X.A.in1 (call (.builtin "list.sort") [.ref h'.objs.size]) (fun _ s' => EP X pins σ Q (.ref h'.objs.size) s') E' { s with heap := h'.push { cls := .type "list", data := .seq (xs.map fun x => Value.ref x.2.1).toArray }, toks := tk } := by
    intro E'
    have kl : (keysD kvs).length = kvs.length := by unfold keysD; rw [List.length_map]
    unfold okSrt at hz
    by_cases h2 : (keysD kvs).length < 2
    · refine wpAny_call_entry PyProof.Rows.slot_list_sort ⟨_, hobj, rfl⟩ PyProof.Rows.entry_list_sort (SrtO.list_sort_ord SrtO.swo_int hobj (by rw [List.length_map]; omega) (fun h3 => absurd h3 (by rw [List.length_map]; omega)) fun out h3 h4 => ⟨.none, rfl, ?_⟩) (PyProof.Rows.args_list_sort _)
      have hp := h4.perm
      have eo : out = xs.map fun x => Value.ref x.2.1 := by
        have n2 : xs.length < 2 := by omega
        match xs, hp, n2 with
        | [], hp, _ => exact hp.eq_nil
        | [v], hp, _ => exact List.perm_singleton.mp hp
        | _ :: _ :: _, _, n2 => simp at n2; omega
      have es2 : srtD (keysD kvs) = keysD kvs := by
        match keysD kvs, h2 with
        | [], _ => rfl
        | [d], _ => rfl
        | _ :: _ :: _, h2 => simp at h2; omega
      exact fin out _ _ (by rw [eo, List.length_map]) (by rw [eo]; exact v1) d1 es2.symm
    · rw [Bool.or_eq_true, Bool.and_eq_true] at hz
      rcases hz with hz | hz
      · exact absurd (of_decide_eq_true hz) h2
      obtain ⟨al, nn, sh⟩ := alkD_at hz.1
      obtain ⟨cl, dp⟩ := lay_all sh
      obtain ⟨as, h4⟩ := Dp.readsAll I _ _ _ (Drs.dp sG d1 cl) v1
      have h5 := keys_no h4
      refine PySem.W.list_sort_data (enc := id) (bs := keysD kvs) (R := fun u d => ∃ x, RelV x u ∧ Dr G x d) hobj (drs_each (pins := pins) (X := X) (s := s) (σ := σ) (H := H) v1 d1) (h5.mono fun u d hr => ⟨[], PyProof.Rows.Reads.keeps (fun b ob e => (old b ob e).1) hr, by simp⟩) (by rw [List.map_id]; exact al) (by
        rw [List.map_id]
        refine .inl fun d hd => ?_
        have := List.all_eq_true.mp hz.2 d hd
        cases d with
        | tuple zs => cases zs with
          | nil => cases this
          | cons z zs => exact ⟨z, zs, rfl⟩
        | _ => cases this) (by omega) (fun d hd => by have := SeqAt.depth_of_shaped (sh d hd); show X.A.units + 1 + 1 + (PyData.depth d) < _; omega) fun out hlo hout => ?_
      obtain ⟨ys, h6, h7⟩ := each_back hout
      exact fin out ys _ (by omega) h6 h7 (srtD_eq _).symm
  exact wpAny_bind (wpAny_holding (wpAny_mono (hsort _) (fun _ s' x => wpAny_pure ⟨_, rfl, x⟩) fun _ _ e => e))
end

/-! ### {k: v}, sum(d.values()), len(set(..)) -/
theorem dst_nodup {α : Type} [BEq α] [LawfulBEq α] (xs : List α) : (dst xs).Nodup ∧ ∀ x, x ∈ dst xs ↔ x ∈ xs := by
  have go : ∀ (xs acc : List α), acc.Nodup → (xs.foldl (fun s k => if s.any (· == k) then s else s ++ [k]) acc).Nodup ∧ ∀ x, x ∈ xs.foldl (fun s k => if s.any (· == k) then s else s ++ [k]) acc ↔ x ∈ acc ∨ x ∈ xs := by
    intro xs
    induction xs with
    | nil => intro acc h; exact ⟨h, fun x => by simp⟩
    | cons y r ih =>
      intro acc h
      rw [List.foldl_cons]
      by_cases c : acc.any (· == y) = true
      · rw [if_pos c]
        obtain ⟨h1, h2⟩ := ih acc h
        have hy : y ∈ acc := by obtain ⟨z, hz, e⟩ := List.any_eq_true.mp c; rw [← beq_iff_eq.mp e]; exact hz
        refine ⟨h1, fun x => ?_⟩
        rw [h2, List.mem_cons]
        constructor
        · rintro (z | z)
          · exact .inl z
          · exact .inr (.inr z)
        · rintro (z | rfl | z)
          · exact .inl z
          · exact .inl hy
          · exact .inr z
      · rw [if_neg c]
        have hy : y ∉ acc := fun z => c (List.any_eq_true.mpr ⟨y, z, by simp⟩)
        obtain ⟨h1, h2⟩ := ih (acc ++ [y]) (by
          rw [List.nodup_append]
          exact ⟨h, by simp, fun a ha b hb => by have : b = y := by simpa using hb
                                                 subst this; exact fun e => hy (e ▸ ha)⟩)
        refine ⟨h1, fun x => ?_⟩
        rw [h2, List.mem_append, List.mem_singleton, List.mem_cons]
        constructor
        · rintro ((z | z) | z)
          · exact .inl z
          · exact .inr (.inl z)
          · exact .inr (.inr z)
        · rintro (z | z | z)
          · exact .inl (.inl z)
          · exact .inl (.inr z)
          · exact .inr z
  obtain ⟨h1, h2⟩ := go xs [] List.nodup_nil
  exact ⟨h1, fun x => by rw [show x ∈ dst xs ↔ _ from h2 x]; simp⟩
theorem dst_len {α : Type} [BEq α] [LawfulBEq α] {xs L : List α} (h : L.Nodup) (m : ∀ x, x ∈ L ↔ x ∈ xs) : L.length = (dst xs).length := by
  obtain ⟨h1, h2⟩ := dst_nodup xs
  refine ((List.perm_ext_iff_of_nodup h h1).mpr fun x => ?_).length_eq
  rw [m, h2]
theorem firstMet_dst (ns : List Int) : firstMet (fun i => ns.getD i 0) ns.length = dst ns := by
  unfold firstMet dst
  have e : (List.range ns.length).map (fun i => ns.getD i 0) = ns := by
    apply List.ext_getElem?
    intro i
    rw [List.getElem?_map]
    by_cases c : i < ns.length
    · rw [List.getElem?_range c, List.getElem?_eq_getElem c]
      show some (ns.getD i 0) = _
      rw [List.getD_eq_getElem?_getD, List.getElem?_eq_getElem c]; rfl
    · rw [List.getElem?_eq_none (by simp; omega), List.getElem?_eq_none (by omega)]; rfl
  rw [e]; rfl
section
variable {X : Cx}
/-- len(set(xs)), xs a list or a tuple of ints -/
theorem pe_lsetI {a : Expr} {ta : TE} {p p2 q pos : Pos} (hc : X.calm = true) (hg : Gl X "len") (hm : X.mg "len" = none) (hg2 : Gl X "set") (hm2 : X.mg "set" = none) (ha : PE X a ta)
    (na : starEach [a] X.env = (false, eval a X.env) :: starEach [] X.env) (hu : X.A.units + 65 < cLine) : PE X (.Call (.Name "len" p) [.Call (.Name "set" p2) [a] [] q] [] pos) (fun σ H Q => ta σ H fun x H1 => ∃ (l : Addr), x = V.ref l ∧
      ((∃ ns : List Int, (SqL X.K H1 l (ns.map V.int) ∨ SqT X.K H1 l (ns.map V.int)) ∧ ns.length ≤ 4000 ∧ Q (.int ((dst ns).length : Nat)) H1) ∨
        ∃ ks : List (Addr × List Int), SqL X.K H1 l (ks.map fun p => V.ref p.1) ∧ (∀ p ∈ ks, TF H1 p.1 (p.2.map V.int)) ∧ ks.length < 64 ∧ ∀ r o, H1 r = none → Q (.int ((dst (ks.map (·.2))).length : Nat)) (upd H1 r o))) := by
  refine ⟨fun pins s σ H Q I h => Call_ (ld_blt I hg hm PySem.boot_len (PyProof.Rows.callWith_builtin1 (PyProof.Rows.args_cons (Call_ (ld_blt I hg2 hm2 PyProof.Rows.boot_set ?_)) rfl) rfl rfl))⟩
  refine PyProof.Rows.callWith_type1 (PyProof.Rows.args_cons (thn (ha.run pins s σ H _ I h) fun v s1 ⟨x, H1, I1, r1, l, ex, q1⟩ => PyProof.Rows.args_nil ?_) na) na rfl
  subst ex
  cases r1
  rcases q1 with ⟨ns, hq, hl, q1⟩ | ⟨ks, hq, ht, hl, q1⟩
  · have sb : ns.length + 1 < scanBound := by unfold scanBound; omega
    rcases hq with hq | hq
    · obtain ⟨its, r, pl, hz⟩ := I1.list hq
      have hsz : its.toArray.size = ns.length := by rw [List.size_toArray, ← r.length, List.length_map]
      refine call_set_list (I1.ok.hd hc) pl.isList (ns := ns) (by simpa using r.ints) (by rw [hsz]; exact sb) fun h' tk hS hk => ?_
      rw [hsz, firstMet_dst] at hS
      refine PyProof.Rows.args_nil ?_
      obtain ⟨o, es, ep, t, ho, hex, hd, _, _, _, hf, hn⟩ := hS
      have I2 : Inv X pins σ H1 { s1 with heap := h', toks := tk } := I1.kept fun b o e => hk b o (Heap.lt_size e) e
      have le : (dst ns).length ≤ ns.length := by rw [← firstMet_dst]; exact firstMet_length_le _ _
      exact call_len_set ho hex hd hf (by rw [hn] <;> omega) ⟨.int ((dst ns).length : Nat), H1, I2.tok _, ⟨_, by rw [hn]⟩, q1⟩
    · obtain ⟨its, r, pl, hz⟩ := I1.tuple hq
      refine call_set_tupI ns (I1.ok.hd hc) pl (by simpa using r.ints) sb fun h' tk c hS hcl hk => ?_
      refine PyProof.Rows.args_nil ?_
      obtain ⟨o, es, ep, t, ho, hex, hd, _, nd, mm, _, hf, hn, _⟩ := hS
      have I2 : Inv X pins σ H1 { s1 with heap := h', toks := tk } := I1.kept hk
      have e : c = (dst ns).length := by
        have := dst_len (xs := ns) nd fun x => by rw [← mm x]; simp
        rw [← this, List.length_map, Array.length_toList]; exact hn.symm
      exact call_len_set ho hex hd hf (by rw [hn] <;> omega) ⟨.int ((dst ns).length : Nat), H1, I2.tok _, ⟨_, by rw [hn, e]⟩, q1⟩
  · refine wpAny_mono (cr_setOfT hc (by omega) pins s1 σ H1 [.ref l] [.ref l] (fun v H2 => ∃ r L, v = .ref r ∧ H1 r = none ∧ H2 = upd H1 r (SetTO X.prog X.w r L) ∧ (∀ p ∈ L, p ∈ ks) ∧ ∀ p ∈ ks, p.2 ∈ L.map (·.2)) I1 (.cons rfl .nil) ⟨l, ks, rfl, hq, fun p hp => (ht p hp).sq, hl, fun a L ha h1 h2 => ⟨a, L, rfl, ha, rfl, h1, h2⟩⟩) (fun u s2 ⟨y, H2, I2, ry, r, L, ey, hr, e2, h1, h2⟩ => ?_) fun _ _ z => z
    subst ey e2
    cases ry
    refine PyProof.Rows.args_nil ?_
    have hT : SetT0 X.prog X.w s2.heap r L := (I2.hok r _ upd_same).1
    obtain ⟨es, ep, t, R⟩ := hT.full fun p hp => I2.isT ((ht p (h1 p hp)).mono (same_upd hr)).sq
    obtain ⟨o, ho, hex, hd⟩ := R.ob
    have sz := R.size
    have few := R.few
    have e : es.size = (dst (ks.map (·.2))).length := by
      rw [sz]
      have := dst_len (xs := ks.map (·.2)) R.nd fun x => by
        constructor
        · intro z
          obtain ⟨p, hp, e⟩ := List.mem_map.mp z
          exact List.mem_map.mpr ⟨p, h1 p hp, e⟩
        · intro z
          obtain ⟨p, hp, e⟩ := List.mem_map.mp z
          rw [← e]; exact h2 p hp
      rw [← this, List.length_map]
    exact call_len_set ho hex hd R.fits (by omega) ⟨.int ((dst (ks.map (·.2))).length : Nat), _, I2.tok _, ⟨_, by rw [e]⟩, q1 r _ hr⟩
/-- {k: v} -/
theorem pe_d1X {ke ve : Expr} {tk tv : TE} {pos : Pos} (hu : X.A.units + 1 < cLine) (hk : PE X ke tk) (hv : PE X ve tv) : PE X (.Dict [some ke] [ve] pos) (fun σ H Q => ∀ p, H p = none → tk σ (upd H p (DO p [])) fun y H1 => tv σ H1 fun v H2 =>
    ∃ b k d G, y = .ref b ∧ H2 p = some (DO p []) ∧ Same G H2 ∧ TF G b (k.map V.int) ∧ Dr G v d ∧ ∀ ys, KvR G ys [(k, d)] → Q (.ref p) (upd H2 p (DO p ys))) := by
  refine ⟨fun pins s σ H Q I h => ?_⟩
  have hs : (s.heap.objs.size == sysModules) = false := beq_eq_false_iff_ne.mpr (Nat.ne_of_gt I.big)
  have x : DR (s.heap.push { cls := .type "dict", data := .dict #[] }) s.heap.objs.size [] := ⟨Nat.zero_le _, hs, _, #[], 0, Heap.get?_push_size _ rfl, ⟨rfl, rfl, rfl⟩, rfl, rfl, List.nodup_nil⟩
  have hn := I.hok.fresh (Nat.le_refl s.heap.objs.size)
  have I1 := I.laid (a := s.heap.objs.size) (o := DO s.heap.objs.size []) (h' := s.heap.push { cls := .type "dict", data := .dict #[] }) (t' := s.toks) (fun _ _ q => Heap.get?_push_of_some _ q) (Nat.le_refl _) (DO_ok x)
  have len := pairTrees_length [some ke] [ve] X.env pos rfl rfl
  rw [arm_eval_Dict, zip_pairTrees [some ke] [ve] X.env pos rfl rfl, dictDisplay_pairs (pairTrees [some ke] [ve] X.env pos) (fun z => by rw [z] at len; cases len) (by rw [len]; show 1 < 17; decide)]
  refine wpAny_bind (wpAny_standAt (wpAny_bind (wpAny_subDictH (knd := tupleKind (PySem.intKind X.prog X.w)) (Q := fun d s' => wpAny (model X.prog X.w) X.A (pure (Value.ref d)) (EP X pins σ Q) X.xe s') (show X.A.units < cLine by omega) (by rw [len]; show 1 ≤ 15; decide) ?_)))
  refine pairTrees_cons_walk (thn (hk.run pins _ σ _ _ I1 (h _ hn)) fun w1 s1 ⟨y, H1, I2, r1, q1⟩ => thn (hv.run pins s1 σ H1 _ I2 q1) fun w2 s2 ⟨v, H2, I3, r2, b, k, d, G, ey, hm, sG, tk, hd, q2⟩ => pairTrees_nil_walk ?_)
  subst ey
  obtain rfl : w1 = Value.ref b := r1
  have hD := DO_rd I3.hok (.inl hm)
  have ho : s2.heap.DictOfH (tupleKind (PySem.intKind X.prog X.w)) s.heap.objs.size [] := hD.of I3.hok (Same.refl H2) .nil
  refine ⟨[(k, b, w2)], ⟨rfl, rfl, tf_key I3.hok (tk.mono sG), trivial⟩, ho, fun h' tk' dd' sb => wpAny_pure ⟨.ref s.heap.objs.size, _, ?_, rfl, q2 [(k, b, w2)] (.cons k tk r2 hd .nil)⟩⟩
  obtain ⟨o, es, ep, e1, e2, e3, e4, _, e5⟩ := dd'
  exact d_write I3 (by rw [hm]; exact True.intro) sb ⟨o, e1⟩ (DO_ok ⟨by show 1 ≤ sizeLine; decide, hs, o, es, ep, e1, e2, e3, e4, e5⟩)
end
section
variable {prog : Program} {w : World} {A : Around} {E : Value → Shared → Prop} {s : Shared}
/-- d.values(): a view -/
theorem view_madeV {d : Addr} {es : Array DictEntry} {ep : Nat} (hd : (d == sysModules) = false) : MeetsIn prog w (Builtin.«dict.values» ⟨[.ref d], []⟩) (fun _ R s => s.heap.DictRaw d es ep ∧ R (.ok (.ret (.ref s.heap.objs.size))) { s with heap := s.heap.push { cls := .type "dict_values", data := .fields #[.ref d] } }) :=
  .of_wp fun A R s hh => by
    obtain ⟨hm, h⟩ := hh
    refine wpAny_bind (by unfold Builtin.Dict.noArgs; refine wpAny_bind (wpAny_notOrdered_dict hm.typeIs ?_); show wpAny _ _ (pure d) _ _ s; refine wpAny_pure ?_; show wpAny _ _ (Builtin.Dict.showsAll d >>= _) _ _ s; unfold Builtin.Dict.showsAll; rw [if_neg (by rw [hd]; exact Bool.false_ne_true)]; exact wpAny_bind (wpAny_pure (wpAny_bind (wpAny_newObj_type (wpAny_pure ⟨_, rfl, h⟩)))))
end
def viewOV (p d : Addr) : HO := .ext fun h => h.IsValuesView p d
theorem viewOV_ok {P : Program} {w : World} {H : Hp} {h : Heap} {p d : Addr} (e : h.IsValuesView p d) : ObjOk P w H h p (viewOV p d) := by
  obtain ⟨o, ho, r⟩ := e
  exact ⟨⟨o, ho, r⟩, ⟨o, ho⟩, fun h1 h2 x k => by obtain ⟨o, ho, r⟩ := x; exact ⟨o, k o ho, r⟩⟩
theorem kvr_at {G : Hp} : ∀ {xs : Ens} {kvs : List (List Int × D)} {j : Nat} {p : List Int × Addr × Value}, KvR G xs kvs → xs[j]? = some p → ∃ v d, kvs[j]? = some (p.1, d) ∧ RelV v p.2.2 ∧ Dr G v d
  | _, _, _, _, .nil, e => by simp at e
  | _, _, 0, _, .cons k t q h _, e => by simp at e; subst e; exact ⟨_, _, rfl, q, h⟩
  | _, _, j + 1, _, .cons _ _ _ _ r, e => by
    obtain ⟨v, d, h1, h2⟩ := kvr_at (j := j) r (by simpa using e)
    exact ⟨v, d, by simpa using h1, h2⟩
theorem preSum_list (ns : List Int) : ∀ n : Nat, n ≤ ns.length → preSum (fun i => ns.getD i 0) n = (ns.take n).sum
  | 0, _ => by simp [preSum]
  | n + 1, h => by
    show preSum _ n + ns.getD n 0 = _
    rw [preSum_list ns n (by omega), List.take_succ, List.getElem?_eq_getElem (by omega), List.sum_append, List.getD_eq_getElem?_getD, List.getElem?_eq_getElem (by omega)]
    simp
theorem intsD_at : ∀ {ds : List D} {ns : List Int} {j : Nat} {d : D}, intsD ds = some ns → ds[j]? = some d → ∃ n, d = .int n ∧ ns[j]? = some n
  | [], _, _, _, _, h => by simp at h
  | x :: r, ns, j, d, e, h => by
    cases x <;> first | (unfold intsD at e; cases q : intsD r with | none => rw [q] at e; cases e | some ms => rw [q] at e; cases e; cases j with | zero => (simp at h; subst h; exact ⟨_, rfl, rfl⟩) | succ j => (obtain ⟨n, h1, h2⟩ := intsD_at q (by simpa using h); exact ⟨n, h1, by simpa using h2⟩)) | cases e
theorem intsD_len : ∀ {ds : List D} {ns : List Int}, intsD ds = some ns → ns.length = ds.length
  | [], _, e => by cases e; rfl
  | x :: r, ns, e => by
    cases x <;> first | (unfold intsD at e; cases q : intsD r with | none => rw [q] at e; cases e | some ms => rw [q] at e; cases e; rw [List.length_cons, List.length_cons, intsD_len q]) | cases e
section
variable {X : Cx}
/-- sum(d.values()) -/
theorem pe_vsumX {e : Expr} {td : TE} {p ap cp pos : Pos} (hc : X.calm = true) (hg : Gl X "sum") (hm : X.mg "sum" = none) (he : PE X e td) (hbase : attributeBase e (Str.ofString "values") X.env (eval e X.env) = eval e X.env) (hl : (ap.endLine == cp.line) = true) :
    PE X (.Call (.Name "sum" p) [.Call (.Attribute e (Str.ofString "values") ap) [] [] cp] [] pos) (fun σ H Q => td σ H fun x H1 => ∃ a xs G kvs n, x = .ref a ∧ H1 a = some (DO a xs) ∧ Same G H1 ∧ KvR G xs kvs ∧ sumK kvs = some n ∧ ∀ r o, H1 r = none → Q (.int n) (upd H1 r o)) := by
  refine ⟨fun pins s σ H Q I h => Call_ (ld_blt I hg hm boot_sum (PyProof.Rows.callWith_builtin1 (PyProof.Rows.args_cons ?_ rfl) rfl rfl))⟩
  refine wpAny_Call_method0_late hbase hl (thn (he.run pins s σ H _ I h) fun v s1 ⟨x, H1, I1, r1, a, xs, G, kvs, n, ex, ha, sG, hk, hn, q⟩ => ?_)
  subst ex
  obtain rfl : v = Value.ref a := r1
  obtain ⟨h1, h2⟩ := dx_ty I1 (.inl ha)
  obtain ⟨z, hd, o, es, ep, ho, hx, hdat, hes, _⟩ := DO_rd I1.hok (.inl ha)
  obtain ⟨raw, _⟩ := raw_dict ho hx hdat
  have hf : H1 s1.heap.objs.size = none := I1.hok.fresh (Nat.le_refl _)
  refine ⟨"dict", "dict.values", PySem.F.plainAttrs_dict, PySem.F.slot_dict_values, PySem.F.type_dict_values, h1, h2, Calls.callWith_builtin rfl (PySem.evalArgs_none ?_)⟩
  refine call_meetsIn PySem.F.slot_dict_values raw.typeIs PySem.F.entry_dict_values (PySem.F.args_dict_values_1 _) (view_madeV hd) ⟨raw, ?_⟩
  have hv : (s1.heap.push { cls := .type "dict_values", data := .fields #[.ref a] }).IsValuesView s1.heap.objs.size a := ⟨_, Heap.get?_push_size _ rfl, rfl, rfl⟩
  have I2 : Inv X pins σ (upd H1 s1.heap.objs.size (viewOV s1.heap.objs.size a)) { s1 with heap := s1.heap.push { cls := .type "dict_values", data := .fields #[.ref a] } } := I1.laid (t' := s1.toks) (fun b u e => Heap.get?_push_of_some _ e) (Nat.le_refl _) (viewOV_ok hv)
  refine PyProof.Rows.args_nil ?_
  have hh := I1.ok.hd hc
  unfold sumK at hn
  obtain ⟨ns, hns, rfl⟩ := Option.map_eq_some_iff.mp hn
  have n1 : es.size = xs.length := by have := congrArg List.length hes; simpa using this
  have n2 : xs.length = kvs.length := hk.length
  have n3 : ns.length = kvs.length := by rw [intsD_len hns, List.length_map]
  refine call_sum_walkAnyS ?_
  have K := KdlSrc.rawValues (prog := X.prog) (w := X.w) (r := s1.heap.objs.size) (d := a) (es := es) (ep := ep)
  obtain ⟨oI, St, hit, W, st⟩ := K.iter X.A.in1 { s1 with heap := s1.heap.push { cls := .type "dict_values", data := .fields #[.ref a] } } hh ⟨hv, raw.push _⟩
  refine hit _ _ ⟨_, _, _, _, es.size, _, _, fun i => ns.getD i 0, rfl, W.toS, st, fun b hb => ?_, fun i v hP => ?_, fun s' t' hm' => ?_⟩
  · show b < ((s1.heap.push { cls := .type "dict_values", data := .fields #[.ref a] }).push oI).objs.size
    rw [size_push']
    rcases List.mem_cons.mp hb with e | hb
    · rw [e]; exact Nat.lt_succ_self _
    · rw [List.mem_singleton.mp hb]
      exact Nat.lt_succ_of_lt (K.there _ ⟨hv, raw.push _⟩).2
  · obtain ⟨hi, rfl⟩ := hP
    have e0 : es[i]? = some es[i] := Array.getElem?_eq_getElem hi
    rw [← Array.getElem?_toList, hes, List.getElem?_map] at e0
    obtain ⟨p, hp, e1⟩ := Option.map_eq_some_iff.mp e0
    obtain ⟨v, d, k1, k2, k3⟩ := kvr_at hk hp
    obtain ⟨m, rfl, hm2⟩ := intsD_at hns (show (kvs.map (·.2))[i]? = some d by rw [List.getElem?_map, k1]; rfl)
    cases k3
    obtain ⟨t, ht⟩ := k2
    refine ⟨t, ?_⟩
    show es[i].val = Value.int (ns.getD i 0) t
    rw [List.getD_eq_getElem?_getD, hm2, ← e1]
    exact ht
  · have hk2 : ∀ b o, (s1.heap.push { cls := .type "dict_values", data := .fields #[.ref a] }).get? b = some o → s'.heap.get? b = some o := fun b o e =>
      hm'.heap b o (fun hI => absurd (Heap.lt_size e) (by rw [List.mem_singleton.mp hI]; exact Nat.lt_irrefl _)) (Heap.get?_push_of_some _ e)
    rw [Moved.eq_with hm']
    have e : preSum (fun i => ns.getD i 0) es.size = ns.sum := by
      rw [show es.size = ns.length by omega, preSum_list ns _ (Nat.le_refl _), List.take_length]
    exact ⟨.int ns.sum, _, I2.kept (t' := s'.toks) hk2, ⟨t', by rw [e]⟩, q _ _ hf⟩
end
end DP

/-! tuple(enumerate(xs)) -/
namespace DP
namespace TE
open PySem PySem.W PyProof.Rows
def EnSt (h : Heap) (e it l : Addr) (items : Array Value) (S : Addr) (i : Nat) : Prop :=
  h.IsListIter it l i ∧ h.IsList l items ∧ ((∃ old, IsEnum h e it (i : Int) old) ∨ ∃ old T f oT, IsEnumHeld h e it (i : Int) old T f ∧ h.get? T = some oT ∧ T ≠ e ∧ T ≠ it ∧ T ≠ S)
/-- the pairs that the list holds -/
def Held (h : Heap) (e it S : Addr) (items : Array Value) (n0 : Nat) (acc : Array Value) (i : Nat) : Prop :=
  acc.size = i ∧ ∀ j, j < i → ∃ (p : Addr) (tk : Tok) (x : Value), acc[j]? = some (.ref p) ∧ items[j]? = some x ∧ n0 ≤ p ∧ p ≠ e ∧ p ≠ it ∧ p ≠ S ∧ h.get? p = some { cls := .type "tuple", data := .seq #[.int (j : Nat) tk, x] }
theorem Held.on {h h' : Heap} {e it S : Addr} {items : Array Value} {n0 : Nat} {acc : Array Value} {i : Nat} (x : Held h e it S items n0 acc i) (k : ∀ b o, b ≠ e → b ≠ it → b ≠ S → h.get? b = some o → h'.get? b = some o) : Held h' e it S items n0 acc i :=
  ⟨x.1, fun j hj => by
    obtain ⟨p, tk, v, a1, a2, a3, a4, a5, a6, a7⟩ := x.2 j hj
    exact ⟨p, tk, v, a1, a2, a3, a4, a5, a6, k p _ a4 a5 a6 a7⟩⟩
theorem Held.push {h : Heap} {e it S : Addr} {items : Array Value} {n0 : Nat} {acc : Array Value} {i : Nat} (x : Held h e it S items n0 acc i) {p : Addr} {tk : Tok} {v : Value} (hv : items[i]? = some v) (a3 : n0 ≤ p) (a4 : p ≠ e) (a5 : p ≠ it) (a6 : p ≠ S)
    (a7 : h.get? p = some { cls := .type "tuple", data := .seq #[.int (i : Nat) tk, v] }) : Held h e it S items n0 (acc.push (.ref p)) (i + 1) := by
  refine ⟨by rw [Array.size_push, x.1], fun j hj => ?_⟩
  by_cases c : j = i
  · subst c
    refine ⟨p, tk, v, ?_, hv, a3, a4, a5, a6, a7⟩
    rw [Array.getElem?_push, if_pos x.1.symm]
  · obtain ⟨q, tk2, v2, b1, r⟩ := x.2 j (by omega)
    refine ⟨q, tk2, v2, ?_, r⟩
    rw [Array.getElem?_push, if_neg (by rw [x.1]; exact c)]
    exact b1
section
variable {prog : Program} {w : World} {A : Around} {R : Result → Shared → Prop} {e it l S : Addr} {items : Array Value}
theorem loop (hh : A.handled = none) (res : Value) (hei : e ≠ it) (hle : l ≠ e) (hli : l ≠ it) (hSe : S ≠ e) (hSi : S ≠ it) (hSl : S ≠ l) (hn : items.size ≤ sizeLine) (h0 : Heap) :
    ∀ (k i : Nat) (s : Shared) (acc : Array Value) (c : Nat), items.size - i = k → i ≤ items.size → EnSt s.heap e it l items S i → s.heap.get? S = some { cls := .type "list", dict := none, data := .seq acc c, slots := #[] } → Held s.heap e it S items h0.objs.size acc i →
    (∀ b o, b ≠ e → b ≠ it → b ≠ S → h0.get? b = some o → s.heap.get? b = some o) → h0.objs.size ≤ s.heap.objs.size →
    (∀ h' tk acc' c', h'.get? S = some { cls := .type "list", dict := none, data := .seq acc' c', slots := #[] } → Held h' e it S items h0.objs.size acc' items.size → (∀ b o, b ≠ e → b ≠ it → b ≠ S → h0.get? b = some o → h'.get? b = some o) → R (.ok (.ret res)) { s with heap := h', toks := tk }) →
    codeAny (model prog w) A (.builtin "list.extend.loop" ⟨[.ref S, .ref e, res], []⟩) R s := by
  intro k
  induction k with
  | zero =>
    intro i s acc c hk hi hst hS hacc kp hz hR
    have hin : i = items.size := by omega
    subst hin
    obtain ⟨hit, hl, he⟩ := hst
    have hx : items[items.size]? = none := Array.getElem?_eq_none (Nat.le_refl _)
    refine codeAny_builtin F.entry_extend_loop ?_
    rw [Around.under_plainId F.plain_extend_loop _]
    show wpAny _ A.in1 (pyNext (.ref e) >>= _) _ _ s
    have fin : ∀ h', Heap.ExtBut it s.heap h' → R (.ok (.ret res)) { s with heap := h' } := fun h' hk => hR h' s.toks acc c (hk S _ hSi hS) (hacc.on fun b o _ b2 _ z => hk b o b2 z) fun b o b1 b2 b3 z => hk b o b2 (kp b o b1 b2 b3 z)
    refine wpAny_bind ?_
    rcases he with ⟨old, he⟩ | ⟨old, T, f, oT, he, hT, r1, r2, r3⟩
    · exact wpAny_pyNext_enum_end hh he hit hl hx fun h' hk => wpAny_pure (fin h' hk)
    · exact wpAny_pyNext_enum_end_held hh he hit hl hx fun h' hk => wpAny_pure (fin h' hk)
  | succ k ih =>
    intro i s acc c hk hi hst hS hacc kp hz hR
    have hlt : i < items.size := by omega
    obtain ⟨hit, hl, he⟩ := hst
    have ex := Array.getElem?_eq_getElem hlt
    have ec : ((i + 1 : Nat) : Int) = (i : Int) + 1 := by omega
    have nit : s.heap.objs.size ≠ it := let ⟨_, x, _⟩ := hit; Nat.ne_of_gt (Heap.lt_size x)
    have nS : s.heap.objs.size ≠ S := Nat.ne_of_gt (Heap.lt_size hS)
    refine codeAny_builtin F.entry_extend_loop ?_
    rw [Around.under_plainId F.plain_extend_loop _]
    show wpAny _ A.in1 (pyNext (.ref e) >>= _) _ _ s
    have go : s.heap.objs.size ≠ e → ∀ h', h'.IsListIter it l (i + 1) → h'.get? s.heap.objs.size = some { cls := .type "tuple", data := .seq #[.int (i : Nat) s.toks, items[i]] } → h'.objs.size = s.heap.objs.size + 1 →
        (∀ b o, b ≠ e → b ≠ it → s.heap.get? b = some o → h'.get? b = some o) → (∃ old T f oT, IsEnumHeld h' e it ((i + 1 : Nat) : Int) old T f ∧ h'.get? T = some oT ∧ T ≠ e ∧ T ≠ it ∧ T ≠ S) →
        wpAny (model prog w) A.in1 (do updateSeq S (·.push (.ref s.heap.objs.size)); again (.builtin "list.extend.loop" ⟨[.ref S, .ref e, res], []⟩)) (fun fin s' => match fin with | .done f => R (.ok f) s' | .again c' => c'.quiet = true ∧ codeAny (model prog w) A c' R s') (fun e s' => R (.error e) s') { s with heap := h', toks := s.toks + 1 } := fun ne h' hit' hT hsz hk he' => by
      have hS' := hk S _ hSe hSi hS
      have oth : ∀ b o, b ≠ S → h'.get? b = some o → (h'.update S (Obj.mapSeq (·.push (.ref s.heap.objs.size)))).get? b = some o := fun b o hb z => (Heap.get?_update_other _ _ (Ne.symm hb)).trans z
      refine wpAny_bind (wpAny_updateSeq (s := { s with heap := h', toks := s.toks + 1 }) hS' rfl (wpAny_pure ⟨plainId_quiet F.plain_extend_loop _, ih (i + 1) _ (acc.push (.ref s.heap.objs.size)) _ (by omega) hlt ⟨?_, ?_, ?_⟩ (Heap.get?_update_self _ hS' rfl) ?_ ?_ ?_ hR⟩) (by rw [hacc.1]; omega) (by show (acc.push _).size ≤ sizeLine + 1; rw [Array.size_push, hacc.1]; omega))
      · exact hit'.at fun o x => oth it o (Ne.symm hSi) x
      · exact (hl.at fun o x => hk l o hle hli x).at fun o x => oth l o (Ne.symm hSl) x
      · obtain ⟨old, T, f, oT, a1, a2, a3, a4, a5⟩ := he'
        exact .inr ⟨old, T, f, oT, oth e _ (Ne.symm hSe) a1, oth T _ a5 a2, a3, a4, a5⟩
      · exact ((hacc.on fun b o b1 b2 _ z => hk b o b1 b2 z).push ex hz ne nit nS hT).on fun b o _ _ b3 z => oth b o b3 z
      · exact fun b o b1 b2 b3 z => oth b o b3 (hk b o b1 b2 (kp b o b1 b2 b3 z))
      · show h0.objs.size ≤ (h'.update S _).objs.size
        rw [Heap.size_update, hsz]; omega
    refine wpAny_bind ?_
    rcases he with ⟨old, he⟩ | ⟨old, T, f, oT, he, hT, r1, r2, r3⟩
    · have ne : s.heap.objs.size ≠ e := Nat.ne_of_gt (Heap.lt_size he)
      exact wpAny_pyNext_enum_item he hit hl ex hei fun h' ho hit' hT hsz hk => go ne h' hit' hT hsz hk ⟨_, s.heap.objs.size, false, _, (by rw [ec]; exact ho), hT, ne, nit, nS⟩
    · have ne : s.heap.objs.size ≠ e := Nat.ne_of_gt (Heap.lt_size he)
      exact wpAny_pyNext_enum_item_held he hT r1 r2 hit hl ex hei fun h' ho hit' hT' hsz hk => go ne h' hit' hT' hsz hk ⟨old, T, true, oT, (by rw [ec]; exact ho), hk _ _ r1 r2 hT, r1, r2, r3⟩
end
theorem en_no_len : typeLookup (.type "enumerate") "__len__" = pure none := by rw [typeLookup_type, builtinLookup_eq_fast]; kernel_rfl
theorem en_no_hint : typeLookup (.type "enumerate") "__length_hint__" = pure none := by rw [typeLookup_type, builtinLookup_eq_fast]; kernel_rfl
section
variable {prog : Program} {w : World} {A : Around} {E : Value → Shared → Prop} {s : Shared} {e it l : Addr} {items : Array Value} {old : Value}
theorem collect_enum {Q : List Value → Shared → Prop} (hh : A.handled = none) (he : IsEnum s.heap e it 0 old) (hit : s.heap.IsListIter it l 0) (hl : s.heap.IsList l items) (hei : e ≠ it) (hle : l ≠ e) (hli : l ≠ it) (hn : items.size ≤ sizeLine)
    (hQ : ∀ h' tk acc, Held h' e it s.heap.objs.size items s.heap.objs.size acc items.size → (∀ b o, b ≠ e → b ≠ it → s.heap.get? b = some o → h'.get? b = some o) → Q acc.toList { s with heap := h', toks := tk }) :
    wpAny (model prog w) A (collect (.ref e)) Q E s := by
  have hSe : s.heap.objs.size ≠ e := Nat.ne_of_gt (Heap.lt_size he)
  have hSi : s.heap.objs.size ≠ it := let ⟨_, x, _⟩ := hit; Nat.ne_of_gt (Heap.lt_size x)
  have hSl : s.heap.objs.size ≠ l := let ⟨_, x, _⟩ := hl; Nat.ne_of_gt (Heap.lt_size x)
  unfold collect
  refine wpAny_bind (wpAny_runValue (codeAny_builtin F.entry_proto_collect ?_))
  rw [Around.under_plainId F.plain_proto_collect _]
  show wpAny _ A.in1 (newList [] >>= fun l => again (.builtin "list.__iadd__" ⟨[l, .ref e], []⟩)) _ _ s
  refine wpAny_bind (wpAny_newObj_type ?_)
  refine wpAny_pure ⟨plainId_quiet F.plain_list_iadd _, codeAny_builtin F.entry_list_iadd ?_⟩
  rw [Around.under_plainId F.plain_list_iadd _]
  have k1 : ∀ b o, s.heap.get? b = some o → (s.heap.push { cls := .type "list", data := .seq ([] : List Value).toArray }).get? b = some o := fun b o z => Heap.get?_push_of_some _ z
  have he₁ : IsEnum (s.heap.push { cls := .type "list", data := .seq ([] : List Value).toArray }) e it 0 old := k1 _ _ he
  have hT : ∀ g d t os, (⟨s.heap.push { cls := .type "list", data := .seq ([] : List Value).toArray }, g, d, t, os⟩ : Shared).TypeIs (.ref e) "enumerate" := fun _ _ _ _ => ⟨_, he₁, rfl⟩
  show wpAny _ A.in1 (Builtin.List.listExtendWith (.ref s.heap.objs.size) (.ref e) (.ref s.heap.objs.size)) _ _ _
  unfold Builtin.List.listExtendWith
  refine wpAny_bind (wpAny_typeOf (hT _ _ _ _) ?_)
  have h1 : Builtin.List.listSameRef (.ref s.heap.objs.size) (.ref e) = false := by simp [Builtin.List.listSameRef, hSe]
  have h2 : (Value.type "enumerate" == Value.type "list") = false := by decide
  have h3 : (Value.type "enumerate" == Value.type "tuple") = false := by decide
  simp only [h1, h2, h3, Bool.or_false, Bool.false_eq_true, if_false]
  refine wpAny_bind (wpAny_pyIter_enum he₁ ?_)
  refine wpAny_bind (wpAny_holding ?_)
  unfold Builtin.List.listLengthHint
  refine wpAny_bind (wpAny_specialOf (hT _ _ _ _) en_no_len ?_)
  show wpAny _ A.in1 (specialOf (Value.ref e) (Str.ofString "__length_hint__") >>= _) _ _ _
  refine wpAny_bind (wpAny_specialOf (hT _ _ _ _) en_no_hint ?_)
  refine wpAny_pure ?_
  show wpAny _ A.in1 (rule "list.extend.makes-room" >>= fun _ => Builtin.List.listTouch (.ref s.heap.objs.size) >>= fun _ =>
    again (.builtin "list.extend.loop" ⟨[.ref s.heap.objs.size, .ref e, .ref s.heap.objs.size], []⟩)) _ _ _
  refine wpAny_bind (wpAny_rule ?_)
  have hS₁ : (s.heap.push { cls := .type "list", data := .seq ([] : List Value).toArray }).get? s.heap.objs.size = some { cls := .type "list", data := .seq ([] : List Value).toArray } := Heap.get?_push_size _ rfl
  refine wpAny_bind ?_
  show wpAny _ A.in1 (updateSeq s.heap.objs.size (·.push .none) >>= fun _ => updateSeq s.heap.objs.size (·.pop)) _ _ _
  refine wpAny_bind (wpAny_updateSeq hS₁ rfl ?_)
  have hS₂ := Heap.get?_update_self (Obj.mapSeq (·.push Value.none)) hS₁ rfl
  refine wpAny_updateSeq hS₂ rfl ?_
  have hS₃ := Heap.get?_update_self (Obj.mapSeq (·.pop)) hS₂ rfl
  have oth : ∀ b o, s.heap.get? b = some o →
      (((s.heap.push { cls := .type "list", data := .seq ([] : List Value).toArray }).update s.heap.objs.size (Obj.mapSeq (·.push Value.none))).update s.heap.objs.size (Obj.mapSeq (·.pop))).get? b = some o := fun b o z =>
    have hb : s.heap.objs.size ≠ b := Nat.ne_of_gt (Heap.lt_size z)
    (Heap.get?_update_other _ _ hb).trans ((Heap.get?_update_other _ _ hb).trans (k1 b o z))
  refine wpAny_pure ⟨plainId_quiet F.plain_extend_loop _, loop hh _ hei hle hli hSe hSi hSl hn s.heap items.size 0 _ _ _ rfl (Nat.zero_le _) ⟨hit.at fun o x => oth it o x, hl.at fun o x => oth l o x, .inl ⟨old, oth e _ he⟩⟩ hS₃ ⟨rfl, fun j hj => absurd hj (Nat.not_lt_zero _)⟩ (fun b o _ _ _ z => oth b o z) ?_ fun h' tk acc' c' hS' hacc k' => ?_⟩
  · rw [Heap.size_update, Heap.size_update, Heap.size_push]; omega
  show wpAny _ A (load s.heap.objs.size >>= _) _ _ _
  refine wpAny_bind (wpAny_load hS' ?_)
  exact wpAny_pure (hQ h' tk acc' hacc fun b o b1 b2 z => k' b o b1 b2 (Nat.ne_of_lt (Heap.lt_size z)) z)
theorem code_tuple_enum {Q₁ : Value → Shared → Prop} (hh : A.handled = none) (he : IsEnum s.heap e it 0 old) (hit : s.heap.IsListIter it l 0) (hl : s.heap.IsList l items) (hei : e ≠ it) (hle : l ≠ e) (hli : l ≠ it) (hn : items.size ≤ sizeLine)
    (h : ∀ h' tk acc, Held h' e it s.heap.objs.size items s.heap.objs.size acc items.size → (∀ b o, b ≠ e → b ≠ it → s.heap.get? b = some o → h'.get? b = some o) → Q₁ (.ref h'.objs.size) { s with heap := h'.push { cls := .type "tuple", data := .seq acc }, toks := tk }) :
    codeAny (model prog w) A (.call (.builtin "tuple.__new__") ⟨[.type "tuple", .ref e], []⟩) (wants Q₁ E) s := by
  refine codeAny_of_tree ?_
  show wpAny _ A.in1 (do checkBuiltinCall "tuple.__new__" ⟨[.type "tuple", .ref e], []⟩; again (.builtin "tuple.__new__" ⟨[.type "tuple", .ref e], []⟩)) _ _ s
  refine wpAny_bind (wpAny_of_eq (F.newCall_tuple_1 _) (wpAny_pure ⟨plainId_quiet F.plain_tuple_new _, codeAny_builtin F.entry_tuple_new ?_⟩))
  rw [Around.under_plainId F.plain_tuple_new _]
  have hsub := sub_tuple_self
  have hinit := init_tuple_lookup
  have hmh := madeHere_tuple
  have hTI : s.TypeIs (.ref e) "enumerate" := ⟨_, he, rfl⟩
  have hh' : A.in1.in1.handled = none := hh
  wp_walk using wpAny_typeOf hTI, collect_enum (A := A.in1) hh he hit hl hei hle hli hn
  intro h' tk acc hacc k'
  show wpAny _ _ (Builtin.Tuple.tupleExact acc.toList.toArray >>= fun v => ret v) _ _ _
  unfold Builtin.Tuple.tupleExact
  refine wpAny_bind (wpAny_newObj_type ?_ (by show acc.toList.toArray.size ≤ sizeLine; simp only [Array.toArray_toList]; rw [hacc.1]; exact hn))
  refine wpAny_pure ?_
  have e : acc.toList.toArray = acc := by simp
  rw [e]
  exact h h' tk acc hacc k'
theorem call_tuple_enum {Q : Value → Shared → Prop} (hh : A.handled = none) (he : IsEnum s.heap e it 0 old) (hit : s.heap.IsListIter it l 0) (hl : s.heap.IsList l items) (hei : e ≠ it) (hle : l ≠ e) (hli : l ≠ it) (hn : items.size ≤ sizeLine)
    (hQ : ∀ h' tk acc, Held h' e it s.heap.objs.size items s.heap.objs.size acc items.size → (∀ b o, b ≠ e → b ≠ it → s.heap.get? b = some o → h'.get? b = some o) → Q (.ref h'.objs.size) { s with heap := h'.push { cls := .type "tuple", data := .seq acc }, toks := tk }) :
    wpAny (model prog w) A (call (.type "tuple") [.ref e]) Q E s := by
  refine callType_codes (Q₁ := fun obj s₁ => s₁.TypeIs obj "tuple" ∧ Q obj s₁) F.called_tuple (F.typeCall_tuple_1 _) F.entry_object_init
    (code_tuple_enum hh he hit hl hei hle hli hn fun h' tk acc hacc k' => ⟨⟨_, Heap.get?_push_size _ rfl, rfl⟩, hQ h' tk acc hacc k'⟩) fun obj s₁ h₁ => ?_
  exact ⟨h₁.1, F.args_object_init_2 obj _, object_init_meets F.called_tuple.init.lookup F.called_tuple.made (by decide) prog w A.in1 _ s₁ ⟨h₁.1, rfl, h₁.2⟩⟩
end
end TE
open PySem PySem.Spec PyProof.Rows L2
/-- a pair of place and element for each, new -/
def NewPs : List V → Nat → Hp → (List V → Hp → Prop) → Prop
  | [], _, H, Q => Q [] H
  | x :: xs, k, H, Q => NewT H [.int (k : Nat), x] fun v H2 => NewPs xs (k + 1) H2 fun vs H3 => Q (v :: vs) H3
theorem vals_at : ∀ {xs : List V} {its : List Value}, Vals xs its → ∀ {j : Nat} {x : V} {v : Value}, xs[j]? = some x → its[j]? = some v → RelV x v
  | _, _, .nil, j, x, v, e, _ => by simp at e
  | _, _, .cons r rs, 0, x, v, e1, e2 => by
    cases e1
    cases e2
    exact r
  | _, _, .cons r rs, j + 1, x, v, e1, e2 => vals_at rs (j := j) (by simpa using e1) (by simpa using e2)
theorem lay_ps {P : Program} {w : World} {hf : Heap} {items acc : Array Value} {n0 : Nat} : ∀ (xs : List V) (k : Nat) (H : Hp) (Q : List V → Hp → Prop), HOk P w H hf →
    (∀ j, j < xs.length → ∃ (p : Addr) (tk : Tok) (v : Value), acc[k + j]? = some (.ref p) ∧ items[k + j]? = some v ∧ n0 ≤ p ∧ hf.get? p = some { cls := .type "tuple", data := .seq #[.int ((k + j : Nat) : Int) tk, v] }) →
    (∀ j x v, xs[j]? = some x → items[k + j]? = some v → RelV x v) →
    (∀ (p : Addr) (j : Nat) (tk : Tok) (v : Value), k ≤ j → n0 ≤ p → hf.get? p = some { cls := .type "tuple", data := .seq #[.int (j : Nat) tk, v] } → H p = none) → NewPs xs k H Q →
    ∃ ps us H', HOk P w H' hf ∧ (∀ b, b < n0 → H' b = H b) ∧ Vals ps us ∧ us.length = xs.length ∧ (∀ j, j < xs.length → us[j]? = acc[k + j]?) ∧ Q ps H'
  | [], k, H, Q, ok, _, _, _, q => ⟨[], [], H, ok, fun _ _ => rfl, .nil, rfl, fun j hj => absurd hj (Nat.not_lt_zero _), q⟩
  | x :: xs, k, H, Q, ok, hp, hv, fr, q => by
    obtain ⟨p, tk, v, a1, a2, a3, a4⟩ := hp 0 (by rw [List.length_cons]; omega)
    rw [Nat.add_zero] at a1 a2 a4
    have rv : RelV x v := hv 0 x v rfl (by rw [Nat.add_zero]; exact a2)
    have hn := fr p k tk v (Nat.le_refl _) a3 a4
    have ob : ObjOk P w (upd H p (.frz { cls := .type "tuple", data := .seq #[.int (k : Nat) tk, v] } (.tup [.int (k : Nat), x]))) hf p (.frz { cls := .type "tuple", data := .seq #[.int (k : Nat) tk, v] } (.tup [.int (k : Nat), x])) :=
      ⟨a4, by rw [sizeLine_eq]; exact (by decide : 2 ≤ 16777216), [.int (k : Nat) tk, v], .cons ⟨tk, rfl⟩ (.cons rv .nil), ⟨_, a4, rfl, _, rfl⟩⟩
    have ok2 := ok.laidN (fun _ _ z => z) hn ob
    have q2 : NewPs xs (k + 1) (upd H p (.frz { cls := .type "tuple", data := .seq #[.int (k : Nat) tk, v] } (.tup [.int (k : Nat), x]))) fun vs H3 => Q (V.ref p :: vs) H3 := q p { cls := .type "tuple", data := .seq #[.int (k : Nat) tk, v] } hn rfl
    obtain ⟨ps, us, H', h1, h2, h3, h4, h5, h6⟩ := lay_ps xs (k + 1) _ _ ok2 (fun j hj => by
        have := hp (j + 1) (by rw [List.length_cons]; omega)
        rwa [show k + (j + 1) = k + 1 + j by omega] at this) (fun j y u e1 e2 => hv (j + 1) y u (by rw [List.getElem?_cons_succ]; exact e1) (by rw [show k + (j + 1) = k + 1 + j by omega]; exact e2))
      (fun r j tk2 v2 hj hr e => by
        have ne : r ≠ p := fun z => by
          rw [z, a4] at e
          have e := Option.some.inj e
          injection e with _ _ e3 _
          injection e3 with e4 _
          have e5 := congrArg Array.toList e4
          simp only [List.cons.injEq, Value.int.injEq] at e5
          omega
        rw [upd_ne ne]
        exact fr r j tk2 v2 (by omega) hr e) q2
    refine ⟨V.ref p :: ps, Value.ref p :: us, H', h1, fun b hb => ?_, .cons (show RelV (V.ref p) (Value.ref p) from rfl) h3, by rw [List.length_cons, List.length_cons, h4], fun j hj => ?_, h6⟩
    · rw [h2 b hb]
      exact upd_ne (Nat.ne_of_lt (Nat.lt_of_lt_of_le hb a3))
    · cases j with
      | zero => rw [Nat.add_zero]; exact a1.symm
      | succ j =>
        rw [List.length_cons] at hj
        rw [List.getElem?_cons_succ, h5 j (by omega), show k + (j + 1) = k + 1 + j by omega]
section
variable {X : Cx}
/-- tuple(enumerate(xs)) -/
theorem pe_ten {a : Expr} {ta : TE} {p p2 q pos : Pos} (hc : X.calm = true) (hg : Gl X "tuple") (hm : X.mg "tuple" = none) (hg2 : Gl X "enumerate") (hm2 : X.mg "enumerate" = none) (ha : PE X a ta)
    (na : starEach [a] X.env = (false, eval a X.env) :: starEach [] X.env) : PE X (.Call (.Name "tuple" p) [.Call (.Name "enumerate" p2) [a] [] q] [] pos) (fun σ H Q => ta σ H fun x H1 => ∃ (l : Addr) (xs : List V), x = V.ref l ∧ SqL X.K H1 l xs ∧ NewPs xs 0 H1 fun ps H2 => NewT H2 ps Q) := by
  refine ⟨fun pins s σ H Q I h => Call_ (ld_blt I hg hm boot_tuple (PyProof.Rows.callWith_type1 (PyProof.Rows.args_cons (Call_ (ld_blt I hg2 hm2 (by first | boot_by_name | rfl | kernel_rfl) ?_)) rfl) rfl rfl))⟩
  refine PyProof.Rows.callWith_type1 (PyProof.Rows.args_cons (thn (ha.run pins s σ H _ I h) fun v s1 ⟨x, H1, I1, r1, l, xs, ex, hq, q1⟩ => PyProof.Rows.args_nil ?_) na) na rfl
  subst ex
  cases r1
  obtain ⟨its, rv, pl, hz⟩ := I1.list hq
  have ln : its.length = xs.length := rv.length.symm
  have hL := pl.isList
  have ll : l < s1.heap.objs.size := let ⟨_, z, _⟩ := hL; Heap.lt_size z
  refine call_enumerate_list hL fun h1 he hit hsz k1 => PyProof.Rows.args_nil ?_
  have hzi : its.toArray.size ≤ sizeLine := by rw [List.size_toArray, ln]; exact hz
  refine TE.call_tuple_enum (s := { s1 with heap := h1 }) (I1.ok.hd hc) he hit (hL.at fun o z => k1 _ o z) (Nat.succ_ne_self _) (Nat.ne_of_lt (Nat.lt_succ_of_lt ll)) (Nat.ne_of_lt ll) hzi fun hf tk acc hacc k2 => ?_
  have kk : ∀ b o, s1.heap.get? b = some o → hf.get? b = some o := fun b o z => by
    have := Heap.lt_size z
    exact k2 b o (Nat.ne_of_lt (Nat.lt_succ_of_lt this)) (Nat.ne_of_lt this) (k1 b o z)
  have hsz : h1.objs.size = s1.heap.objs.size + 2 := hsz
  obtain ⟨sz, held⟩ := hacc
  have e0 : its.toArray.size = xs.length := by rw [List.size_toArray, ln]
  rw [e0] at sz held
  obtain ⟨ps, us, H', ok, low, vals, ul, ug, fin⟩ := lay_ps (P := X.prog) (w := X.w) (hf := hf) (items := its.toArray) (acc := acc) (n0 := s1.heap.objs.size) xs 0 H1 (fun ps H2 => NewT H2 ps Q) (I1.hok.kept kk) (fun j hj => by
      obtain ⟨p, tk, v, a1, a2, a3, _, _, _, a7⟩ := held j hj
      rw [Nat.zero_add]
      exact ⟨p, tk, v, a1, a2, by have : h1.objs.size ≤ p := a3; omega, a7⟩) (fun j x v e1 e2 => by
      rw [Nat.zero_add] at e2
      rw [List.getElem?_toArray] at e2
      exact vals_at rv e1 e2) (fun p j tk v _ hp _ => I1.hok.fresh hp) q1
  have eu : us = acc.toList := by
    apply List.ext_getElem?
    intro j
    by_cases c : j < xs.length
    · rw [ug j c, Nat.zero_add, Array.getElem?_toList]
    · rw [List.getElem?_eq_none (by omega), List.getElem?_eq_none (by rw [Array.length_toList]; omega)]
  have lt : ∀ b o, H1 b = some o → b < s1.heap.objs.size := fun b o z => by
    by_cases c : b < s1.heap.objs.size
    · exact c
    · have := I1.hok.fresh (Nat.le_of_not_lt c)
      rw [z] at this; cases this
  have U : Un X.fs [] H1 H' s1.heap hf := {
    keep := fun b u z _ _ _ => kk b u z
    slot := fun b u z _ _ _ => ⟨u.slots, kk b u z⟩
    free := fun b u z n _ => by rw [low b (Heap.lt_size z)]; exact n
    there := fun b u z _ => ⟨u, kk b u z⟩
    tups := fun b xs z => by rw [low b (lt b _ z)]; exact z
    frzs := fun b u xs z => by rw [low b (lt b _ z)]; exact z
    tbls := fun b ps z => ⟨#[], by rw [low b (lt b _ z), z]; simp⟩ }
  have I2 : Inv X pins σ H' { s1 with heap := hf, toks := tk } := I1.un U ok
  have e := newT_laid (tk := tk) I2 vals (by rw [vals.length, ul]; exact hz) fin
  rw [eu, Array.toArray_toList] at e
  exact e
end
end DP

/-! sorted(set(xs)), xs a list of ints -/
namespace DP
open PySem PySem.Spec PyProof.Rows L2
section
variable {P : Program} {w : World} {A : Around} {E : Value → Shared → Prop} {s : Shared}
/-- set(xs) of a list of ints, the places of its members kept -/
theorem set_ofL {l : Addr} {items : Array Value} (ns : List Int) {Q : Value → Shared → Prop} (hh : A.handled = none) (hl : s.heap.IsList l items) (hit : IntsAre items.toList ns) (hb : ns.length + 1 < scanBound)
    (h : ∀ (h' : Heap) (tk c : Nat), SetR w h' s.heap.objs.size (fun j => decide (j ∈ ns)) c → c ≤ ns.length → (∀ b o, s.heap.get? b = some o → h'.get? b = some o) → Q (.ref s.heap.objs.size) { s with heap := h', toks := tk }) :
    wpAny (model P w) A (call (.type "set") [.ref l]) Q E s := by
  have hisz : items.size = ns.length := by
    have q := IntsAre.length hit
    rw [Array.length_toList] at q
    exact q
  let so : Obj := { cls := .type "set", dict := none, data := .set #[] 0 (.fresh 0 0 (!w.params.followText "set-order")) }
  let h1 := s.heap.push so
  have hS : h1.get? s.heap.objs.size = some so := Heap.get?_push_size _ rfl
  obtain ⟨c, tl, hmro⟩ := F.called_set.mro
  have hmade := F.called_set.made
  have hsub := F.called_set.sub
  refine wpAny_call (codeAny_of_tree ?_)
  show wpAny _ _ (callAny (.type "set") _) _ _ _
  refine wpAny_pure ⟨Code.quiet_builtin _ (by decide +kernel), codeAny_builtin F.entry_type_call ?_⟩
  rw [Around.under_plain (weight_type_call_type "set" [.ref l] []) rfl]
  have n1 := F.called_set.notType
  have n2 := F.called_set.canCreate
  have hct := F.typeCall_set_1 (.ref l)
  repeat (any_goals (first | assumption | wp_step))
  refine codeAny_mono (code_set_led1 (.ref l) (E := E) (Q₁ := fun obj s₁ => obj = .ref s.heap.objs.size ∧ s₁ = { s with heap := h1 }) ⟨rfl, rfl⟩) fun r s₁ hr => ?_
  match r, hr with
  | .error e, hr => exact hr
  | .ok (.next), hr => exact hr.elim
  | .ok (.brk), hr => exact hr.elim
  | .ok (.cont), hr => exact hr.elim
  | .ok (.ret obj), hr =>
    obtain ⟨rfl, rfl⟩ := hr
    have hT : Shared.TypeIs { s with heap := h1 } (.ref s.heap.objs.size) "set" := ⟨_, hS, rfl⟩
    have hli := F.called_set.init.lookup
    have hbi := F.called_set.init.bind (.ref s.heap.objs.size)
    repeat (any_goals (first | assumption | wp_step))
    refine codeAny_mono (codeAny_call_builtin (R := wants (fun r s₂ => r = .none ∧ ∃ h' tk c, s₂ = { s with heap := h', toks := tk } ∧ SetR w h' s.heap.objs.size (fun j => decide (j ∈ ns)) c ∧ c ≤ ns.length ∧
        (∀ b o, s.heap.get? b = some o → h'.get? b = some o)) E) F.called_set.init.plain F.entry_set_init (check_set_init_1 hT ?_)) fun r₂ s₂ hr₂ => ?_
    · have k1 : ∀ b o, s.heap.get? b = some o → h1.get? b = some o := fun b o z => Heap.get?_push_of_some _ z
      have hl1 : h1.IsList l items := hl.push _
      have hlS : l < s.heap.objs.size := let ⟨_, z, _⟩ := hl; Heap.lt_size z
      have hlC := hl1
      obtain ⟨⟨ocls, odict, odata, oslots⟩, hol, hcl, nl, hdl⟩ := hlC
      simp only at hcl hdl
      subst hcl; subst hdl
      have hsls := F.sub_list_set
      have hslf := F.sub_list_frozenset
      have hne : (Value.type "list" == Value.type "dict") = false := by decide
      unfold Builtin.«set.__init__» noKeywords Builtin.Frozenset.updateFrom
      generalize hPI : pyIter = PI
      wp_walk
      subst hPI
      refine wpAny_pyIter_list hl1 ?_
      refine wpAny_bind (wpAny_runValue ?_)
      have hh3 : A.in1.in1.in1.handled = none := hh
      have hz1 : h1.objs.size = s.heap.objs.size + 1 := Heap.size_push ..
      have hneI : l ≠ h1.objs.size := by rw [hz1]; exact Nat.ne_of_lt (Nat.lt_succ_of_lt hlS)
      have hSf : s.heap.objs.size ∉ [h1.objs.size, l] := by
        rw [hz1]; simp only [List.mem_cons, List.mem_singleton, List.not_mem_nil, or_false, not_or]
        exact ⟨Nat.ne_of_lt (Nat.lt_succ_self _), Nat.ne_of_gt hlS⟩
      have hval : ∀ (i : Nat) (v : Value), items[i]? = some v → ∃ k t, ns[i]? = some k ∧ v = .int k t := fun i v hv => by
        have hi : i < ns.length := by rw [← hisz]; exact (Array.getElem?_eq_some_iff.mp hv).1
        obtain ⟨t, e⟩ := PyProof.Rows.IntsAre.int_at hit i v (by rw [Array.getElem?_toList]; exact hv)
        refine ⟨ns[i], t, List.getElem?_eq_getElem hi, ?_⟩
        rw [e, List.getD_eq_getElem?_getD, List.getElem?_eq_getElem hi] <;> rfl
      refine set_update_ints ((Walks.list hh3 _ l hneI items).toS) s.heap.objs.size hSf ns hisz hb hval (items.size - 0) 0 _ (by omega) (Nat.zero_le _)
        ⟨⟨_, Heap.get?_push_size _ rfl, rfl, rfl⟩, hl1.push _⟩ ⟨0, Nat.le_refl 0, setR_new_at (Heap.get?_push_of_some _ hS)⟩ ?_
      intro s' c' hm hc' hS'
      obtain ⟨h', g2, d', tk', os'⟩ := s'
      have eg : g2 = s.gens := hm.gens
      have ed : d' = s.drawn := hm.drawn
      have eo : os' = s.os := hm.os
      subst eg; subst ed; subst eo
      show wpAny _ _ _ _ _ _
      refine wpAny_pure ?_
      show wpAny _ _ (ret Value.none) _ _ _
      rw [hisz] at hc'
      refine wpAny_pure ⟨rfl, h', tk', c', rfl, hS', hc', fun b o e => ?_⟩
      have hb0 : b < s.heap.objs.size := Heap.lt_size e
      have hb2 : b ≠ h1.objs.size := by rw [hz1]; exact Nat.ne_of_lt (Nat.lt_succ_of_lt hb0)
      exact hm.heap b o (by simp only [List.mem_cons, List.mem_singleton, List.not_mem_nil, or_false, not_or]; exact ⟨Nat.ne_of_lt hb0, hb2⟩) (Heap.get?_push_of_some _ (k1 b o e))
    · match r₂, hr₂ with
      | .error e, hr₂ => exact hr₂
      | .ok (.next), hr₂ => exact hr₂.elim
      | .ok (.brk), hr₂ => exact hr₂.elim
      | .ok (.cont), hr₂ => exact hr₂.elim
      | .ok (.ret r), hr₂ =>
        obtain ⟨rfl, h', tk, c', rfl, hS', hc', hk'⟩ := hr₂
        repeat (any_goals (first | assumption | wp_step))
        exact h _ _ _ hS' hc' hk'
end
section
variable {X : Cx}
/-- sorted(set(xs)), xs a list of ints, fewer than 64 unlike ones -/
theorem pe_sst {a : Expr} {ta : TE} {p p2 q pos : Pos} (hc : X.calm = true) (hg : Gl X "sorted") (hm : X.mg "sorted" = none) (hg2 : Gl X "set") (hm2 : X.mg "set" = none) (ha : PE X a ta)
    (na : starEach [a] X.env = (false, eval a X.env) :: starEach [] X.env) : PE X (.Call (.Name "sorted" p) [.Call (.Name "set" p2) [a] [] q] [] pos) (fun σ H Q => ta σ H fun x H1 => ∃ (l : Addr) (ns : List Int), x = V.ref l ∧ SqL X.K H1 l (ns.map V.int) ∧ ns.length ≤ 4000 ∧ (dst ns).length < 64 ∧
      ∀ r o, H1 r = none → ∀ (us : List Int) (p : Addr), us.Pairwise (· < ·) → (∀ k, k ∈ us ↔ k ∈ ns) → upd H1 r o p = none → Q (.ref p) (upd (upd H1 r o) p (.lst (us.map V.int)))) := by
  refine ⟨fun pins s σ H Q I h => Call_ (ld_blt I hg hm (by first | boot_by_name | rfl | kernel_rfl) (PyProof.Rows.callWith_builtin1 (PyProof.Rows.args_cons (Call_ (ld_blt I hg2 hm2 PyProof.Rows.boot_set ?_)) rfl) rfl rfl))⟩
  refine PyProof.Rows.callWith_type1 (PyProof.Rows.args_cons (thn (ha.run pins s σ H _ I h) fun v s1 ⟨x, H1, I1, r1, l, ns, ex, hq, hl, h64, q1⟩ => PyProof.Rows.args_nil ?_) na) na rfl
  subst ex
  cases r1
  obtain ⟨its, r, pl, hz⟩ := I1.list hq
  have sb : ns.length + 1 < scanBound := by unfold scanBound; omega
  refine set_ofL ns (I1.ok.hd hc) pl.isList (by simpa using r.ints) sb fun h' tk n hS hn hk => PyProof.Rows.args_nil ?_
  have hf : H1 s1.heap.objs.size = none := I1.hok.fresh (Nat.le_refl _)
  have I2 : Inv X pins σ (upd H1 s1.heap.objs.size (SetO X.w s1.heap.objs.size (fun j => decide (j ∈ ns)) n)) { s1 with heap := h', toks := tk } := I1.laid (t' := tk) hk (Nat.le_refl _) (setO_new hS)
  have e : n = (dst ns).length := by
    obtain ⟨o, es, ep, t, ho, hex, hd, _, nd, mm, _, hf, hn, _⟩ := hS
    have := dst_len (xs := ns) nd fun x => by rw [← mm x]; simp
    rw [← this, List.length_map, Array.length_toList]; exact hn.symm
  exact cr_sortedSet hc pins _ σ _ [.ref s1.heap.objs.size] [.ref s1.heap.objs.size] Q I2 (.cons rfl .nil) ⟨_, _, n, rfl, upd_same, by omega, fun us p hs hm _ hp => q1 _ _ hf us p hs (fun k => by rw [hm k]; exact decide_eq_true_iff) hp⟩
end
end DP

/-! expressions: the evaluator's answer is the program's, one lemma a construct -/
namespace DP
open PySem PySem.Spec PyProof.Rows L2
variable [CA : ClsA]

theorem PE.le {X : Cx} {e : Expr} {t t' : TE} (h : PE X e t) (k : ∀ σ H Q, t' σ H Q → t σ H Q) : PE X e t' := ⟨fun pins s σ H Q I q => h.run pins s σ H Q I (k σ H Q q)⟩
theorem PT.le {X : Cx} {e : Expr} {t t' : TT} (h : PT X e t) (k : ∀ σ H Q, t' σ H Q → t σ H Q) : PT X e t' := ⟨fun pins s σ H Q I q => h.run pins s σ H Q I (k σ H Q q)⟩
theorem PA.le {X : Cx} {e : List Expr} {t t' : TA} (h : PA X e t) (k : ∀ σ H Q, t' σ H Q → t σ H Q) : PA X e t' := ⟨fun pos pins s σ H Q I q => h.run pos pins s σ H Q I (k σ H Q q)⟩
theorem PS.le {X : Cx} {e : Stmt} {t t' : TS} (h : PS X e t) (k : ∀ D σ H, t' D σ H → t D σ H) : PS X e t' := ⟨fun pins s σ H D I q => h.run pins s σ H D I (k D σ H q)⟩
theorem PSs.le {X : Cx} {e : List Stmt} {t t' : TS} (h : PSs X e t) (k : ∀ D σ H, t' D σ H → t D σ H) : PSs X e t' := ⟨fun pins s σ H D I q => h.run pins s σ H D I (k D σ H q)⟩
theorem PI.le {X : Cx} {tg e : Expr} {t t' : TI} (h : PI X tg e t) (k : ∀ σ H Q, t' σ H Q → t σ H Q) : PI X tg e t' := ⟨fun pins s σ H Q I q => h.run pins s σ H Q I (k σ H Q q)⟩
theorem PG.le {X : Cx} {e : Expr} {t t' : TG} (h : PG X e t) (k : ∀ v σ H Q, t' v σ H Q → t v σ H Q) : PG X e t' := ⟨fun pins s σ H v u Q I r q => h.run pins s σ H v u Q I r (k v σ H Q q)⟩
theorem PO.le {X : Cx} {e : Option Expr} {t t' : TO} (h : PO X e t) (k : ∀ σ H Q, t' σ H Q → t σ H Q) : PO X e t' := ⟨fun pins s σ H Q I q => h.run pins s σ H Q I (k σ H Q q)⟩

theorem bz_some {β : Type} {x : Option (SV × Rho)} {f : D → Rho → Option β} {b : β} (h : bz x f = some b) : ∃ sv ρ d, x = some (sv, ρ) ∧ frz sv = some d ∧ f d ρ = some b := by
  cases x with
  | none => cases h
  | some p =>
    obtain ⟨sv, ρ⟩ := p
    cases e : frz sv with
    | none => simp only [bz, e] at h; cases h
    | some d => simp only [bz, e] at h; exact ⟨sv, ρ, d, rfl, e, h⟩
theorem bt_some {β : Type} {x : Option (SV × Rho)} {f : Bool → Rho → Option β} {b : β} (h : bt x f = some b) : ∃ sv ρ d, x = some (sv, ρ) ∧ truth sv = some d ∧ f d ρ = some b := by
  cases x with
  | none => cases h
  | some p =>
    obtain ⟨sv, ρ⟩ := p
    cases e : truth sv with
    | none => simp only [bt, e] at h; cases h
    | some d => simp only [bt, e] at h; exact ⟨sv, ρ, d, rfl, e, h⟩
theorem bd_some {α β : Type} {x : Option (α × Rho)} {f : α → Rho → Option β} {b : β} (h : bd x f = some b) : ∃ a ρ, x = some (a, ρ) ∧ f a ρ = some b := by
  cases x with
  | none => cases h
  | some p => exact ⟨p.1, p.2, rfl, h⟩
theorem truth_val {sv : SV} {b : Bool} (h : truth sv = some b) : sv = .val (.bool b) := by
  cases sv with
  | val d => cases d <;> first | (cases h; rfl) | cases h
  | _ => cases h

/-! ### readings -/
def tE (c : FT) (e : E) : TE := fun σ H Q => ∃ G ρ sv ρ', Rel G H σ ρ ∧ ev c e ρ = some (sv, ρ') ∧ ∀ v H' G', Ext G H σ ρ G' H' σ ρ' → Rel G' H' σ ρ' → SvR G' H' σ ρ' H v sv → Q v H'
def tD (c : FT) (e : E) : TE := fun σ H Q => ∃ G ρ sv d ρ', Rel G H σ ρ ∧ ev c e ρ = some (sv, ρ') ∧ frz sv = some d ∧ ∀ v H' G', Ext G H σ ρ G' H' σ ρ' → Rel G' H' σ ρ' → Dr G' v d → Q v H'
def tT (c : FT) (e : E) : TT := fun σ H Q => ∃ G ρ sv b ρ', Rel G H σ ρ ∧ ev c e ρ = some (sv, ρ') ∧ truth sv = some b ∧ ∀ H' G', Ext G H σ ρ G' H' σ ρ' → Rel G' H' σ ρ' → Q b H'
def tR (c : FT) (e : E) : TE := fun σ H Q => ∃ G ρ d ρ', Rel G H σ ρ ∧ rdr ρ e (ev c e ρ) = some (d, ρ') ∧ ∀ v H' G', Ext G H σ ρ G' H' σ ρ' → Rel G' H' σ ρ' → RdR G' H' v d → Q v H'
def tA (c : FT) (es : E) : TA := fun σ H Q => ∃ G ρ ds ρ', Rel G H σ ρ ∧ evs c es ρ = some (ds, ρ') ∧ ∀ vs H' G', Ext G H σ ρ G' H' σ ρ' → Rel G' H' σ ρ' → Drs G' vs ds → Q vs H'
section
variable {X : Cx} {c : FT} {a b d i lo hi es : E} {a0 b0 d0 i0 : Expr} {pos : Pos}
theorem sD (h : PE X a0 (tE c a)) : PE X a0 (tD c a) := PE.le h fun σ H Q ⟨G, ρ, sv, d, ρ', R, e, z, q⟩ =>
  ⟨G, ρ, sv, ρ', R, e, fun v H' G' E R' S => by
    obtain ⟨G2, E2, R2, D2⟩ := freeze E R' S z
    exact q v H' G2 E2 R2 D2⟩
/-- a test that is a value's truth -/
theorem sT_plain (h : PE X a0 (tE c a)) (he : ∀ whole, isTrue a0 X.env whole = (do let v ← whole; standAt a0.pos; holding [v] (truthy v))) : PT X a0 (tT c a) :=
  PT.le (pt_truth h he) fun σ H Q ⟨G, ρ, sv, k, ρ', R, e, z, q⟩ => ⟨G, ρ, sv, ρ', R, e, fun v H' G' E R' S => by
    cases truth_val z
    cases S with
    | val D =>
      cases D with
      | bl _ => exact ⟨k, rfl, q H' G' E R'⟩⟩
/-- a value that is a bool, by the test's rule -/
theorem tT_tE {σ : St} {H : Hp} {Q : Bool → Hp → Prop} (h : tT c a σ H Q) : tE c a σ H fun x H' => ∃ k, x = .bl k ∧ Q k H' := by
  obtain ⟨G, ρ, sv, k, ρ', R, e, z, q⟩ := h
  refine ⟨G, ρ, sv, ρ', R, e, fun v H' G' E R' S => ?_⟩
  cases truth_val z
  cases S with
  | val D =>
    cases D with
    | bl _ => exact ⟨k, rfl, q H' G' E R'⟩

/-! ### names, constants -/
theorem rd_get {ρ : Rho} {j : Nat} {sv : SV} (h : rd ρ j = sv) (n : sv ≠ .un) : ρ[j]? = some sv := by
  unfold rd at h
  rw [List.getD_eq_getElem?_getD] at h
  cases e : ρ[j]? with
  | none => rw [e] at h; exact absurd h.symm n
  | some w => rw [e] at h; rw [← h]; rfl
theorem Rel.at {G H : Hp} {σ : St} {ρ : Rho} (r : Rel G H σ ρ) {j : Nat} {sv : SV} (h : ρ[j]? = some sv) : ∃ o, σ[j]? = some o ∧ SlotR G H o sv := by
  have hl : j < σ.length := by rw [r.len]; exact (List.getElem?_eq_some_iff.mp h).1
  exact ⟨σ[j], List.getElem?_eq_getElem hl, r.slot j _ sv (List.getElem?_eq_getElem hl) h⟩
theorem set_at {α : Type} {l : List α} {j k : Nat} {x y : α} (h : (l.set j x)[k]? = some y) : (k = j ∧ y = x) ∨ (k ≠ j ∧ l[k]? = some y) := by
  by_cases e : j = k
  · subst e
    by_cases hj : j < l.length
    · rw [List.getElem?_set_self hj] at h; exact .inl ⟨rfl, (Option.some.inj h).symm⟩
    · rw [List.getElem?_eq_none (by simpa using hj)] at h; cases h
  · rw [List.getElem?_set_ne e] at h; exact .inr ⟨fun z => e z.symm, h⟩
/-- a list that a name holds is frozen -/
theorem Rel.thaw {G H : Hp} {σ : St} {ρ : Rho} (r : Rel G H σ ρ) {j : Nat} {ds : List D} (h : ρ[j]? = some (.own ds)) :
    ∃ a G', σ[j]? = some (some (.ref a)) ∧ Ext G H σ ρ G' H σ (ρ.set j (.val (.list ds))) ∧ Rel G' H σ (ρ.set j (.val (.list ds))) ∧ Dr G' (.ref a) (.list ds) := by
  obtain ⟨o, h1, h2⟩ := r.at h
  cases h2 with
  | @own a xs ds hH hG hD =>
    have s1 : Same G (upd G a (.lst xs)) := same_upd hG
    have hotA : HotAt σ ρ a := ⟨j, _, h1, h, rfl⟩
    have dr : Dr (upd G a (.lst xs)) (.ref a) (.list ds) := .lst upd_same (hD.mono s1)
    have other : ∀ b, HotAt σ (ρ.set j (.val (.list ds))) b → HotAt σ ρ b ∧ b ≠ a := fun b ⟨k, sv, k1, k2, k3⟩ => by
      rcases set_at k2 with ⟨rfl, rfl⟩ | ⟨hk, k2⟩
      · cases k3
      · refine ⟨⟨k, sv, k1, k2, k3⟩, fun z => hk ?_⟩
        subst z
        exact r.sep k j _ _ _ k1 k2 k3 h1 h rfl
    refine ⟨a, upd G a (.lst xs), h1, ⟨s1, fun b o q _ => q, fun b o q g n _ => ?_, fun b q => q, fun b q => .inl (other b q).1, fun k b bb k1 k2 => ⟨k1, ?_⟩⟩, ⟨fun b o q => ?_, by rw [List.length_set]; exact r.len, fun k o sv k1 k2 => ?_, fun k l b sv sv' k1 k2 k3 l1 l2 l3 => ?_, (r.tie.mono s1).setR rfl⟩, dr⟩
    · rw [upd_ne (fun z => n (by rw [z]; exact hotA))]; exact g
    · have hk : j ≠ k := fun z => by subst z; rw [h] at k2; cases k2
      rw [List.getElem?_set_ne hk]; exact k2
    · by_cases hb : b = a
      · subst hb; rw [upd_same] at q; cases q; exact hH
      · rw [upd_ne hb] at q; exact r.le b o q
    · rcases set_at k2 with ⟨rfl, rfl⟩ | ⟨hk, k2'⟩
      · rw [h1] at k1; cases k1; exact .val dr
      · have q := r.slot k o sv k1 k2'
        cases q with
        | un => exact .un _
        | val q => exact .val (q.mono s1)
        | own x1 x2 x3 => exact .own x1 (by rw [upd_ne (other _ ⟨k, _, k1, k2, rfl⟩).2]; exact x2) (x3.mono s1)
        | row x1 x2 x3 => exact .row x1 (by rw [upd_ne (other _ ⟨k, _, k1, k2, rfl⟩).2]; exact x2) (x3.mono s1)
        | dct x1 x2 x3 => exact .dct x1 (by rw [upd_ne (other _ ⟨k, _, k1, k2, rfl⟩).2]; exact x2) (x3.mono s1)
        | rdc x1 x2 x3 => exact .rdc x1 (by rw [upd_ne (other _ ⟨k, _, k1, k2, rfl⟩).2]; exact x2) (x3.mono s1)
        | obj x1 x2 x3 => exact .obj x1 (by rw [upd_ne (other _ ⟨k, _, k1, k2, rfl⟩).2]; exact x2) (x3.mono s1)
        | dcf x1 x2 => exact .dcf (s1 _ _ x1) (x2.mono s1)
        | dk x1 x2 x3 => exact .dk x1 (by rw [upd_ne (other _ ⟨k, _, k1, k2, rfl⟩).2]; exact x2) (x3.mono s1)
        | gho x1 x2 x3 => exact .gho x1 (by rw [upd_ne (other _ ⟨k, _, k1, k2, rfl⟩).2]; exact x2) (x3.mono s1)
        | oll o lo n => exact .oll o lo n
    · rcases set_at k2 with ⟨_, rfl⟩ | ⟨_, k2⟩
      · cases k3
      · rcases set_at l2 with ⟨_, rfl⟩ | ⟨_, l2⟩
        · cases l3
        · exact r.sep k l b sv sv' k1 k2 k3 l1 l2 l3
theorem Rel.thaws {G H : Hp} {σ : St} : ∀ {js : List Nat} {ρ : Rho}, Rel G H σ ρ → ∃ G', Ext G H σ ρ G' H σ (thawR ρ js) ∧ Rel G' H σ (thawR ρ js)
  | [], ρ, R => ⟨G, Ext.refl, R⟩
  | j :: js, ρ, R => by
    unfold thawR
    cases z : rd ρ j with
    | own ds =>
      obtain ⟨a, G1, _, E1, R1, _⟩ := R.thaw (rd_get z (by intro z; cases z))
      obtain ⟨G2, E2, R2⟩ := Rel.thaws (js := js) R1
      exact ⟨G2, E1.trans E2, R2⟩
    | un => exact Rel.thaws (js := js) R
    | val _ => exact Rel.thaws (js := js) R
    | row _ => exact Rel.thaws (js := js) R
    | rdc _ => exact Rel.thaws (js := js) R
    | obj _ => exact Rel.thaws (js := js) R
    | dct _ _ => exact Rel.thaws (js := js) R
    | dk _ => exact Rel.thaws (js := js) R
    | gho _ => exact Rel.thaws (js := js) R
    | oll _ _ => exact Rel.thaws (js := js) R
theorem s_fz {js : List Nat} (h : PE X a0 (tE c a)) : PE X a0 (tE c (.fz js a)) := PE.le h fun σ H Q ⟨G, ρ, sv, ρ', R, e, q⟩ => by
  unfold ev at e
  obtain ⟨G1, E1, R1⟩ := R.thaws (js := js)
  exact ⟨G1, _, sv, ρ', R1, e, fun v H' G' E R' S => q v H' G' (E1.trans E) R' (S.older E1.dom)⟩
theorem t_fz {js : List Nat} (h : PT X a0 (tT c a)) : PT X a0 (tT c (.fz js a)) := PT.le h fun σ H Q ⟨G, ρ, sv, b, ρ', R, e, z, q⟩ => by
  unfold ev at e
  obtain ⟨G1, E1, R1⟩ := R.thaws (js := js)
  exact ⟨G1, _, sv, b, ρ', R1, e, z, fun H' G' E R' => q H' G' (E1.trans E) R'⟩
theorem s_var {j : Nat} (h : PE X a0 (tVar j)) : PE X a0 (tE c (.var j)) := PE.le h fun σ H Q ⟨G, ρ, sv, ρ', R, e, q⟩ => by
  unfold ev at e
  cases z : rd ρ j with
  | val d =>
    rw [z] at e
    cases e
    obtain ⟨o, h1, h2⟩ := R.at (rd_get z (by intro z; cases z))
    cases h2 with
    | val hd => exact ⟨_, h1, q _ H G Ext.refl R (.val hd)⟩
  | own ds =>
    rw [z] at e
    cases e
    obtain ⟨a, G', h1, E1, R1, D1⟩ := R.thaw (rd_get z (by intro z; cases z))
    exact ⟨_, h1, q _ H G' E1 R1 (.val D1)⟩
  | un => rw [z] at e; cases e
  | row ds => rw [z] at e; cases e
  | rdc ds => rw [z] at e; cases e
  | obj _ => rw [z] at e; cases e
  | dct lk kvs => rw [z] at e; cases e
  | dk kvs => rw [z] at e; cases e
  | gho ds => rw [z] at e; cases e
  | oll lo n => rw [z] at e; cases e
theorem s_const {v : V} {dd : D} (h : PE X a0 (tC v)) (hd : ∀ G, Dr G v dd) (he : ∀ ρ, ev c a ρ = some (.val dd, ρ)) : PE X a0 (tE c a) := PE.le h fun σ H Q ⟨G, ρ, sv, ρ', R, e, q⟩ => by
  rw [he] at e
  cases e
  exact q v H G Ext.refl R (.val (hd G))

/-! ### operators -/
theorem s_op {o : Op2} (ha : PE X a0 (tE c a)) (hb : PE X b0 (tE c b)) : PE X (.BinOp a0 (opO o) b0 pos) (tE c (.op o a b)) :=
  PE.le (pe_op (op_ok o) (sD ha) (sD hb)) fun σ H Q ⟨G, ρ, sv, ρ', R, e, q⟩ => by
    unfold ev at e
    obtain ⟨sva, ρ1, dx, e1, z1, e⟩ := bz_some e
    obtain ⟨svb, ρ2, dy, e2, z2, e⟩ := bz_some e
    obtain ⟨w, e3, e⟩ := ob_some e
    cases e
    refine ⟨G, ρ, sva, dx, _, R, e1, z1, fun x H1 G1 E1 R1 D1 => ⟨G1, _, svb, dy, _, R1, e2, z2, fun y H2 G2 E2 R2 D2 => ⟨G2, dx, dy, sv, R2.le, D1.mono E2.sub, D2, e3, fun v H3 N => ?_⟩⟩⟩
    obtain ⟨G3, E3, R3, S3⟩ := fin_new R2 N
    exact q v H3 G3 ((E1.trans E2).trans E3) R3 (S3.older (E1.trans E2).dom)
theorem s_neg (ha : PE X a0 (tE c a)) : PE X (.UnaryOp .USub a0 pos) (tE c (.neg a)) :=
  PE.le (pe_un un_neg (sD ha)) fun σ H Q ⟨G, ρ, sv, ρ', R, e, q⟩ => by
    unfold ev at e
    obtain ⟨sva, ρ1, dx, e1, z1, e⟩ := bz_some e
    refine ⟨G, ρ, sva, dx, _, R, e1, z1, fun x H1 G1 E1 R1 D1 => ?_⟩
    cases D1 with
    | int n => cases e; exact ⟨n, rfl, q _ H1 G1 E1 R1 (.val (.int _))⟩
    | _ => cases e
theorem none_iff {G : Hp} {v : V} {dd : D} (h : Dr G v dd) : decide (v = .non) = isNon dd := by
  cases h <;> rfl
theorem s_isn {j : Nat} {p : Pos} (ha : PE X a0 (tE c a)) : PE X (.Compare a0 [.Is] [.Constant .none j p] pos) (tE c (.isn a)) :=
  PE.le (pe_cmpR op_isN (sD ha) pe_non (nomark _)) fun σ H Q ⟨G, ρ, sv, ρ', R, e, q⟩ => by
    unfold ev at e
    obtain ⟨sva, ρ1, dx, e1, z1, e⟩ := bz_some e
    cases e
    refine ⟨G, ρ, sva, dx, _, R, e1, z1, fun x H1 G1 E1 R1 D1 => ⟨rfl, ?_⟩⟩
    rw [none_iff D1]
    exact q _ H1 G1 E1 R1 (.val (.bl _))
theorem s_isnt {j : Nat} {p : Pos} (ha : PE X a0 (tE c a)) : PE X (.Compare a0 [.IsNot] [.Constant .none j p] pos) (tE c (.isnt a)) :=
  PE.le (pe_cmpR op_notN (sD ha) pe_non (nomark _)) fun σ H Q ⟨G, ρ, sv, ρ', R, e, q⟩ => by
    unfold ev at e
    obtain ⟨sva, ρ1, dx, e1, z1, e⟩ := bz_some e
    cases e
    refine ⟨G, ρ, sva, dx, _, R, e1, z1, fun x H1 G1 E1 R1 D1 => ⟨rfl, ?_⟩⟩
    rw [none_iff D1]
    exact q _ H1 G1 E1 R1 (.val (.bl _))
theorem t_isn {j : Nat} {p : Pos} (ha : PE X a0 (tE c a)) : PT X (.Compare a0 [.Is] [.Constant .none j p] pos) (tT c (.isn a)) :=
  PT.le (pt_cmpR op_isN (sD ha) pe_non (nomark _)) fun σ H Q ⟨G, ρ, sv, bb, ρ', R, e, z, q⟩ => by
    unfold ev at e
    obtain ⟨sva, ρ1, dx, e1, z1, e⟩ := bz_some e
    cases e
    refine ⟨G, ρ, sva, dx, _, R, e1, z1, fun x H1 G1 E1 R1 D1 => ⟨rfl, bb, ?_, q H1 G1 E1 R1⟩⟩
    rw [none_iff D1]
    exact congrArg V.bl (Option.some.inj z)
theorem t_isnt {j : Nat} {p : Pos} (ha : PE X a0 (tE c a)) : PT X (.Compare a0 [.IsNot] [.Constant .none j p] pos) (tT c (.isnt a)) :=
  PT.le (pt_cmpR op_notN (sD ha) pe_non (nomark _)) fun σ H Q ⟨G, ρ, sv, bb, ρ', R, e, z, q⟩ => by
    unfold ev at e
    obtain ⟨sva, ρ1, dx, e1, z1, e⟩ := bz_some e
    cases e
    refine ⟨G, ρ, sva, dx, _, R, e1, z1, fun x H1 G1 E1 R1 D1 => ⟨rfl, bb, ?_, q H1 G1 E1 R1⟩⟩
    rw [none_iff D1]
    exact congrArg V.bl (Option.some.inj z)
theorem chain_rd {o p : Cm} {σ : St} {H : Hp} {Q : VK} (h : tE c (.chain o p a b d) σ H Q) : tChain (rCm o) (rCm p) (tD c a) (tD c b) (tD c d) σ H Q := by
  obtain ⟨G, ρ, sv, ρ', R, e, q⟩ := h
  unfold ev at e
  obtain ⟨sva, ρ1, dx, e1, z1, e⟩ := bz_some e
  obtain ⟨svb, ρ2, dy, e2, z2, e⟩ := bz_some e
  obtain ⟨w, e3, e⟩ := ob_some e
  refine ⟨G, ρ, sva, dx, _, R, e1, z1, fun x H1 G1 E1 R1 D1 => ⟨G1, _, svb, dy, _, R1, e2, z2, fun y H2 G2 E2 R2 D2 => ⟨G2, dx, dy, w, R2.le, D1.mono E2.sub, .inl D2, e3, w, rfl, ?_⟩⟩⟩
  cases w with
  | true =>
    rw [if_pos rfl] at e ⊢
    obtain ⟨svc, ρ3, dz, e4, z4, e⟩ := bz_some e
    obtain ⟨w2, e5, e⟩ := ob_some e
    cases e
    exact ⟨G2, _, svc, dz, _, R2, e4, z4, fun u H3 G3 E3 R3 D3 => ⟨G3, dy, dz, w2, R3.le, D2.mono E3.sub, .inl D3, e5, q _ H3 G3 ((E1.trans E2).trans E3) R3 (.val (.bl _))⟩⟩
  | false =>
    rw [if_neg Bool.false_ne_true] at e ⊢
    cases e
    exact q _ H2 G2 (E1.trans E2) R2 (.val (.bl _))
theorem s_chain {o p : Cm} {k : Nat} (hr : Room k X.A) (hm : lastMarks [cmO o, cmO p] [b0, d0] = false) (ha : PE X a0 (tE c a)) (hb : PE X b0 (tE c b)) (hd : PE X d0 (tE c d)) : PE X (.Compare a0 [cmO o, cmO p] [b0, d0] pos) (tE c (.chain o p a b d)) :=
  PE.le (pe_chain (cm_ok (by have := hr.un; omega) o) (cm_ok (by have := hr.un; omega) p) (sD ha) (sD hb) (sD hd) hm) fun σ H Q h => chain_rd h
theorem t_chain {o p : Cm} {k : Nat} (hr : Room k X.A) (hm : lastMarks [cmO o, cmO p] [b0, d0] = false) (ha : PE X a0 (tE c a)) (hb : PE X b0 (tE c b)) (hd : PE X d0 (tE c d)) : PT X (.Compare a0 [cmO o, cmO p] [b0, d0] pos) (tT c (.chain o p a b d)) :=
  PT.le (pt_chain (cm_ok (by have := hr.un; omega) o) (cm_ok (by have := hr.un; omega) p) (sD ha) (sD hb) (sD hd) hm) fun σ H Q h => chain_rd (tT_tE h)

/-! ### and, or, not, if else -/
theorem s_not (ha : PE X a0 (tE c a)) : PE X (.UnaryOp .Not a0 pos) (tE c (.not a)) :=
  PE.le (pe_not ha) fun σ H Q ⟨G, ρ, sv, ρ', R, e, q⟩ => by
    unfold ev at e
    obtain ⟨sva, ρ1, k, e1, z1, e⟩ := bt_some e
    cases e
    exact tT_tE ⟨G, ρ, sva, k, _, R, e1, z1, fun H1 G1 E1 R1 => q _ H1 G1 E1 R1 (.val (.bl _))⟩
theorem t_not (ha : PT X a0 (tT c a)) : PT X (.UnaryOp .Not a0 pos) (tT c (.not a)) :=
  PT.le (pt_not ha) fun σ H Q ⟨G, ρ, sv, bb, ρ', R, e, z, q⟩ => by
    unfold ev at e
    obtain ⟨sva, ρ1, k, e1, z1, e⟩ := bt_some e
    cases e
    cases z
    exact ⟨G, ρ, sva, k, _, R, e1, z1, fun H1 G1 E1 R1 => q H1 G1 E1 R1⟩
variable {rest : List Expr}
theorem s_and (ha : PE X a0 (tE c a)) (hb : PE X (.BoolOp .And (b0 :: rest) pos) (tE c b)) : PE X (.BoolOp .And (a0 :: b0 :: rest) pos) (tE c (.and a b)) :=
  PE.le (pe_and ha hb) fun σ H Q ⟨G, ρ, sv, ρ', R, e, q⟩ => by
    unfold ev at e
    obtain ⟨sva, ρ1, k, e1, z1, e⟩ := bt_some e
    refine tT_tE ⟨G, ρ, sva, k, _, R, e1, z1, fun H1 G1 E1 R1 => ?_⟩
    cases k with
    | true =>
      rw [if_pos rfl] at e ⊢
      exact ⟨G1, ρ1, sv, ρ', R1, e, fun v H2 G2 E2 R2 S2 => q v H2 G2 (E1.trans E2) R2 (S2.older E1.dom)⟩
    | false =>
      rw [if_neg Bool.false_ne_true] at e ⊢
      cases e
      exact q _ H1 G1 E1 R1 (.val (.bl _))
theorem s_or (ha : PE X a0 (tE c a)) (hb : PE X (.BoolOp .Or (b0 :: rest) pos) (tE c b)) : PE X (.BoolOp .Or (a0 :: b0 :: rest) pos) (tE c (.or a b)) :=
  PE.le (pe_or ha hb) fun σ H Q ⟨G, ρ, sv, ρ', R, e, q⟩ => by
    unfold ev at e
    obtain ⟨sva, ρ1, k, e1, z1, e⟩ := bt_some e
    refine tT_tE ⟨G, ρ, sva, k, _, R, e1, z1, fun H1 G1 E1 R1 => ?_⟩
    cases k with
    | true =>
      rw [if_pos rfl] at e ⊢
      cases e
      exact q _ H1 G1 E1 R1 (.val (.bl _))
    | false =>
      rw [if_neg Bool.false_ne_true] at e ⊢
      exact ⟨G1, ρ1, sv, ρ', R1, e, fun v H2 G2 E2 R2 S2 => q v H2 G2 (E1.trans E2) R2 (S2.older E1.dom)⟩
theorem pt_pw {op : BoolOp} {vs : List Expr} {t : TT} (h : PT X (.BoolOp op vs pos) t) : PW X (.BoolOp op vs pos) t := ⟨fun whole pins s σ H Q I q => h.run pins s σ H Q I q⟩
theorem t_one {op : BoolOp} (ha : PT X a0 (tT c a)) : PT X (.BoolOp op [a0] pos) (tT c a) := by
  cases op with
  | And => exact (pw_and1 ha).pt
  | Or => exact (pw_or1 ha).pt
theorem t_and (ha : PT X a0 (tT c a)) (hb : PT X (.BoolOp .And (b0 :: rest) pos) (tT c b)) : PT X (.BoolOp .And (a0 :: b0 :: rest) pos) (tT c (.and a b)) :=
  PT.le (pw_and ha (pt_pw hb)).pt fun σ H Q ⟨G, ρ, sv, bb, ρ', R, e, z, q⟩ => by
    unfold ev at e
    obtain ⟨sva, ρ1, k, e1, z1, e⟩ := bt_some e
    refine ⟨G, ρ, sva, k, _, R, e1, z1, fun H1 G1 E1 R1 => ?_⟩
    cases k with
    | true =>
      rw [if_pos rfl] at e ⊢
      exact ⟨G1, ρ1, sv, bb, ρ', R1, e, z, fun H2 G2 E2 R2 => q H2 G2 (E1.trans E2) R2⟩
    | false =>
      rw [if_neg Bool.false_ne_true] at e ⊢
      cases e
      cases z
      exact q H1 G1 E1 R1
theorem t_or (ha : PT X a0 (tT c a)) (hb : PT X (.BoolOp .Or (b0 :: rest) pos) (tT c b)) : PT X (.BoolOp .Or (a0 :: b0 :: rest) pos) (tT c (.or a b)) :=
  PT.le (pw_or ha (pt_pw hb)).pt fun σ H Q ⟨G, ρ, sv, bb, ρ', R, e, z, q⟩ => by
    unfold ev at e
    obtain ⟨sva, ρ1, k, e1, z1, e⟩ := bt_some e
    refine ⟨G, ρ, sva, k, _, R, e1, z1, fun H1 G1 E1 R1 => ?_⟩
    cases k with
    | true =>
      rw [if_pos rfl] at e ⊢
      cases e
      cases z
      exact q H1 G1 E1 R1
    | false =>
      rw [if_neg Bool.false_ne_true] at e ⊢
      exact ⟨G1, ρ1, sv, bb, ρ', R1, e, z, fun H2 G2 E2 R2 => q H2 G2 (E1.trans E2) R2⟩
theorem s_ife (hk : PT X d0 (tT c d)) (ha : PE X a0 (tE c a)) (hb : PE X b0 (tE c b)) : PE X (.IfExp d0 a0 b0 pos) (tE c (.ife d a b)) :=
  PE.le (pe_ifExp hk ha hb) fun σ H Q ⟨G, ρ, sv, ρ', R, e, q⟩ => by
    unfold ev at e
    obtain ⟨sva, ρ1, k, e1, z1, e⟩ := bt_some e
    refine ⟨G, ρ, sva, k, _, R, e1, z1, fun H1 G1 E1 R1 => ?_⟩
    cases k with
    | true =>
      rw [if_pos rfl] at e ⊢
      exact ⟨G1, ρ1, sv, ρ', R1, e, fun v H2 G2 E2 R2 S2 => q v H2 G2 (E1.trans E2) R2 (S2.older E1.dom)⟩
    | false =>
      rw [if_neg Bool.false_ne_true] at e ⊢
      exact ⟨G1, ρ1, sv, ρ', R1, e, fun v H2 G2 E2 R2 S2 => q v H2 G2 (E1.trans E2) R2 (S2.older E1.dom)⟩

/-! ### arguments, displays -/
theorem a_nil : PA X [] (tA c .nil) := PA.le pa_nil fun σ H Q ⟨G, ρ, ds, ρ', R, e, q⟩ => by
  unfold evs at e
  cases e
  exact q [] H G Ext.refl R .nil
theorem a_cons {es0 : List Expr} (hs : starEach (a0 :: es0) X.env = (false, eval a0 X.env) :: starEach es0 X.env) (ha : PE X a0 (tE c a)) (hb : PA X es0 (tA c es)) : PA X (a0 :: es0) (tA c (.cons a es)) :=
  PA.le (pa_cons (sD ha) hb hs) fun σ H Q ⟨G, ρ, ds, ρ', R, e, q⟩ => by
    unfold evs at e
    obtain ⟨sva, ρ1, dx, e1, z1, e⟩ := bz_some e
    obtain ⟨dr, ρ2, e2, e⟩ := bd_some e
    cases e
    exact ⟨G, ρ, sva, dx, _, R, e1, z1, fun x H1 G1 E1 R1 D1 => ⟨G1, _, dr, _, R1, e2, fun xs H2 G2 E2 R2 D2 => q (x :: xs) H2 G2 (E1.trans E2) R2 (.cons (D1.mono E2.sub) D2)⟩⟩
theorem s_tup {es0 : List Expr} {k : Nat} (h : PA X es0 (tA c es)) : PE X (.Tuple es0 k pos) (tE c (.tup es)) :=
  PE.le (pe_tupF h) fun σ H Q ⟨G, ρ, sv, ρ', R, e, q⟩ => by
    unfold ev at e
    obtain ⟨ds, ρ1, e1, e⟩ := bd_some e
    obtain ⟨hz, e⟩ := ite_some e
    cases e
    refine ⟨G, ρ, ds, ρ', R, e1, fun xs H1 G1 E1 R1 D1 => ⟨by rw [D1.length]; exact Nat.le_of_lt (okL_le hz), fun p o np hd => ?_⟩⟩
    obtain ⟨G2, E2, R2, S2⟩ := fin_new R1 (svn_tup R1.le D1 np hd)
    exact q _ _ G2 (E1.trans E2) R2 (S2.older E1.dom)
theorem s_lst {es0 : List Expr} (h : PA X es0 (tA c es)) : PE X (.List es0 pos) (tE c (.lst es)) :=
  PE.le (pe_lst h) fun σ H Q ⟨G, ρ, sv, ρ', R, e, q⟩ => by
    unfold ev at e
    obtain ⟨ds, ρ1, e1, e⟩ := bd_some e
    obtain ⟨hz, e⟩ := ite_some e
    cases e
    refine ⟨G, ρ, ds, ρ', R, e1, fun xs H1 G1 E1 R1 D1 => ⟨by rw [D1.length]; exact Nat.le_of_lt (okL_le hz), fun p np => ?_⟩⟩
    obtain ⟨G2, E2, R2, S2⟩ := fin_new R1 (svn_lst R1.le D1 np)
    exact q _ _ G2 (E1.trans E2) R2 (S2.older E1.dom)

/-! ### what is read -/
theorem slot_rd {G H : Hp} {σ : St} {ρ : Rho} {j : Nat} {dd : D} (R : Rel G H σ ρ) (h : slotD ρ j = some dd) : ∃ v, σ[j]? = some (some v) ∧ RdR G H v dd := by
  unfold slotD at h
  cases z : rd ρ j with
  | val d =>
    rw [z] at h
    cases h
    obtain ⟨o, h1, h2⟩ := R.at (rd_get z (by intro z; cases z))
    cases h2 with
    | val hd => exact ⟨_, h1, .inl hd⟩
  | own ds =>
    rw [z] at h
    cases h
    obtain ⟨o, h1, h2⟩ := R.at (rd_get z (by intro z; cases z))
    cases h2 with
    | own x1 x2 x3 => exact ⟨_, h1, .inr ⟨_, _, _, rfl, x1, x3, rfl⟩⟩
  | row ds =>
    rw [z] at h
    cases h
    obtain ⟨o, h1, h2⟩ := R.at (rd_get z (by intro z; cases z))
    cases h2 with
    | row x1 x2 x3 => exact ⟨_, h1, .inr ⟨_, _, _, rfl, x1, x3, rfl⟩⟩
  | un => rw [z] at h; cases h
  | dct lk kvs => rw [z] at h; cases h
  | dk kvs => rw [z] at h; cases h
  | gho ds => rw [z] at h; cases h
  | oll lo n => rw [z] at h; cases h
  | rdc kvs => rw [z] at h; cases h
  | obj _ => rw [z] at h; cases h
theorem sR (hv : ∀ j, a = .var j → PE X a0 (tVar j)) (h : PE X a0 (tE c a)) : PE X a0 (tR c a) := by
  cases e : isVar a with
  | some j =>
    have ea : a = .var j := by cases a <;> first | (cases e; rfl) | cases e
    subst ea
    refine PE.le (hv j rfl) fun σ H Q ⟨G, ρ, d, ρ', R, e, q⟩ => ?_
    obtain ⟨dd, e1, e⟩ := ob_some (f := fun d => some (d, ρ)) e
    cases e
    obtain ⟨v, h1, h2⟩ := slot_rd R e1
    exact ⟨v, h1, q v H G Ext.refl R h2⟩
  | none =>
    refine PE.le (sD h) fun σ H Q ⟨G, ρ, d, ρ', R, e1, q⟩ => ?_
    unfold rdr at e1
    rw [e] at e1
    obtain ⟨sv, ρ1, dd, e2, z2, e1⟩ := bz_some e1
    cases e1
    exact ⟨G, ρ, sv, _, _, R, e2, z2, fun v H1 G1 E1 R1 D1 => q v H1 G1 E1 R1 (.inl D1)⟩
theorem s_cmp {o : Cm} {k : Nat} (hr : Room k X.A) (hm : behindInMarks (cmO o) b0 = false) (ha : PE X a0 (tE c a)) (hv : ∀ j, b = .var j → PE X b0 (tVar j)) (hb : PE X b0 (tE c b)) : PE X (.Compare a0 [cmO o] [b0] pos) (tE c (.cmp o a b)) :=
  PE.le (pe_cmpR (cm_ok (by have := hr.un; omega) o) (sD ha) (sR hv hb) hm) fun σ H Q ⟨G, ρ, sv, ρ', R, e, q⟩ => by
    unfold ev at e
    obtain ⟨sva, ρ1, dx, e1, z1, e⟩ := bz_some e
    obtain ⟨dy, ρ2, e2, e⟩ := bd_some e
    obtain ⟨w, e3, e⟩ := ob_some e
    cases e
    exact ⟨G, ρ, sva, dx, _, R, e1, z1, fun x H1 G1 E1 R1 D1 => ⟨G1, _, dy, _, R1, e2, fun y H2 G2 E2 R2 D2 => ⟨G2, dx, dy, w, R2.le, D1.mono E2.sub, D2, e3, q _ H2 G2 (E1.trans E2) R2 (.val (.bl _))⟩⟩⟩
theorem ev_nil (c : FT) (ρ : Rho) : ev c (.lst .nil) ρ = some (.own [], ρ) := by
  unfold ev
  rw [show evs c .nil ρ = some ([], ρ) from by unfold evs; rfl]
  rfl
theorem s_cme {j k : Nat} (hr : Room k X.A) (hm : behindInMarks .Eq b0 = false) (hv : PE X a0 (tVar j)) (hb : PE X b0 (tE c (.lst .nil))) : PE X (.Compare a0 [.Eq] [b0] pos) (tE c (.cme j)) :=
  PE.le (pe_cmpR (ce_ok (by have := hr.un; omega)) hv hb hm) fun σ H Q ⟨G, ρ, sv, ρ', R, e, q⟩ => by
    unfold ev at e
    obtain ⟨dx, e1, e⟩ := ob_some e
    obtain ⟨w, e2, e⟩ := ob_some e
    cases e
    obtain ⟨v, h1, _⟩ := slot_rd R e1
    refine ⟨v, h1, G, ρ, .own [], ρ, R, ev_nil c ρ, fun y H1 G1 E1 R1 S1 => ?_⟩
    obtain ⟨v', h2, h3⟩ := slot_rd R1 e1
    rw [h1] at h2
    cases h2
    cases S1 with
    | own ha ga dr _ _ =>
      cases dr
      exact ⟨G1, dx, _, w, R1.le, h3, rfl, ha, e2, q _ H1 G1 E1 R1 (.val (.bl _))⟩
theorem t_cme {j k : Nat} (hr : Room k X.A) (hm : behindInMarks .Eq b0 = false) (hv : PE X a0 (tVar j)) (hb : PE X b0 (tE c (.lst .nil))) : PT X (.Compare a0 [.Eq] [b0] pos) (tT c (.cme j)) :=
  PT.le (pt_cmpR (ce_ok (by have := hr.un; omega)) hv hb hm) fun σ H Q ⟨G, ρ, sv, bb, ρ', R, e, z, q⟩ => by
    unfold ev at e
    obtain ⟨dx, e1, e⟩ := ob_some e
    obtain ⟨w, e2, e⟩ := ob_some e
    cases e
    cases z
    obtain ⟨v, h1, _⟩ := slot_rd R e1
    refine ⟨v, h1, G, ρ, .own [], ρ, R, ev_nil c ρ, fun y H1 G1 E1 R1 S1 => ?_⟩
    obtain ⟨v', h2, h3⟩ := slot_rd R1 e1
    rw [h1] at h2
    cases h2
    cases S1 with
    | own ha ga dr _ _ =>
      cases dr
      exact ⟨G1, dx, _, bb, R1.le, h3, rfl, ha, e2, bb, rfl, q H1 G1 E1 R1⟩
theorem s_cmn {j k : Nat} (hr : Room k X.A) (hm : behindInMarks .NotEq b0 = false) (hv : PE X a0 (tVar j)) (hb : PE X b0 (tE c (.lst .nil))) : PE X (.Compare a0 [.NotEq] [b0] pos) (tE c (.cmn j)) :=
  PE.le (pe_cmpR (cn_ok (by have := hr.un; omega)) hv hb hm) fun σ H Q ⟨G, ρ, sv, ρ', R, e, q⟩ => by
    unfold ev at e
    obtain ⟨dx, e1, e⟩ := ob_some e
    obtain ⟨w, e2, e⟩ := ob_some e
    cases e
    obtain ⟨v, h1, _⟩ := slot_rd R e1
    refine ⟨v, h1, G, ρ, .own [], ρ, R, ev_nil c ρ, fun y H1 G1 E1 R1 S1 => ?_⟩
    obtain ⟨v', h2, h3⟩ := slot_rd R1 e1
    rw [h1] at h2
    cases h2
    cases S1 with
    | own ha ga dr _ _ =>
      cases dr
      exact ⟨G1, dx, _, w, R1.le, h3, rfl, ha, e2, q _ H1 G1 E1 R1 (.val (.bl _))⟩
theorem t_cmn {j k : Nat} (hr : Room k X.A) (hm : behindInMarks .NotEq b0 = false) (hv : PE X a0 (tVar j)) (hb : PE X b0 (tE c (.lst .nil))) : PT X (.Compare a0 [.NotEq] [b0] pos) (tT c (.cmn j)) :=
  PT.le (pt_cmpR (cn_ok (by have := hr.un; omega)) hv hb hm) fun σ H Q ⟨G, ρ, sv, bb, ρ', R, e, z, q⟩ => by
    unfold ev at e
    obtain ⟨dx, e1, e⟩ := ob_some e
    obtain ⟨w, e2, e⟩ := ob_some e
    cases e
    cases z
    obtain ⟨v, h1, _⟩ := slot_rd R e1
    refine ⟨v, h1, G, ρ, .own [], ρ, R, ev_nil c ρ, fun y H1 G1 E1 R1 S1 => ?_⟩
    obtain ⟨v', h2, h3⟩ := slot_rd R1 e1
    rw [h1] at h2
    cases h2
    cases S1 with
    | own ha ga dr _ _ =>
      cases dr
      exact ⟨G1, dx, _, bb, R1.le, h3, rfl, ha, e2, bb, rfl, q H1 G1 E1 R1⟩
theorem t_cmp {o : Cm} {k : Nat} (hr : Room k X.A) (hm : behindInMarks (cmO o) b0 = false) (ha : PE X a0 (tE c a)) (hv : ∀ j, b = .var j → PE X b0 (tVar j)) (hb : PE X b0 (tE c b)) : PT X (.Compare a0 [cmO o] [b0] pos) (tT c (.cmp o a b)) :=
  PT.le (pt_cmpR (cm_ok (by have := hr.un; omega) o) (sD ha) (sR hv hb) hm) fun σ H Q ⟨G, ρ, sv, bb, ρ', R, e, z, q⟩ => by
    unfold ev at e
    obtain ⟨sva, ρ1, dx, e1, z1, e⟩ := bz_some e
    obtain ⟨dy, ρ2, e2, e⟩ := bd_some e
    obtain ⟨w, e3, e⟩ := ob_some e
    cases e
    cases z
    exact ⟨G, ρ, sva, dx, _, R, e1, z1, fun x H1 G1 E1 R1 D1 => ⟨G1, _, dy, _, R1, e2, fun y H2 G2 E2 R2 D2 => ⟨G2, dx, dy, bb, R2.le, D1.mono E2.sub, D2, e3, bb, rfl, q H2 G2 (E1.trans E2) R2⟩⟩⟩
theorem s_idx (hv : ∀ j, a = .var j → PE X a0 (tVar j)) (ha : PE X a0 (tE c a)) (hi : PE X i0 (tE c i)) (hs : PlainIx i0) : PE X (.Subscript a0 i0 pos) (tE c (.idx a i)) := by
  cases ea : isVar a with
  | some j =>
    have e0 : a = .var j := by cases a <;> first | (cases ea; rfl) | cases ea
    subst e0
    refine PE.le (pe_ix idx_ok (hv j rfl) (sD hi) hs) fun σ H Q ⟨G, ρ, sv, ρ', R, e, q⟩ => ?_
    unfold ev at e
    simp only [isVar] at e
    obtain ⟨d0, e0, e⟩ := ob_some e
    obtain ⟨svi, ρ1, dy, e1, z1, e⟩ := bz_some e
    obtain ⟨dx, e2, e⟩ := ob_some e
    obtain ⟨dd, e3, e⟩ := ob_some e
    cases e
    obtain ⟨v0, hv0, _⟩ := slot_rd R e0
    refine ⟨v0, hv0, G, ρ, svi, dy, ρ', R, e1, z1, fun y H1 G1 E1 R1 D1 => ?_⟩
    obtain ⟨v, h1, h2⟩ := slot_rd R1 e2
    rw [hv0] at h1
    cases h1
    exact ⟨G1, dx, dy, dd, R1.le, h2, D1, e3, fun v D => q v H1 G1 E1 R1 (.val D)⟩
  | none =>
    refine PE.le (pe_ix idx_ok (sD ha) (sD hi) hs) fun σ H Q ⟨G, ρ, sv, ρ', R, e, q⟩ => ?_
    unfold ev at e
    simp only [ea] at e
    obtain ⟨sva, ρ1, dx, e1, z1, e⟩ := bz_some e
    obtain ⟨svi, ρ2, dy, e2, z2, e⟩ := bz_some e
    obtain ⟨dd, e3, e⟩ := ob_some e
    cases e
    exact ⟨G, ρ, sva, dx, _, R, e1, z1, fun x H1 G1 E1 R1 D1 => ⟨G1, ρ1, svi, dy, ρ', R1, e2, z2, fun y H2 G2 E2 R2 D2 => ⟨G2, dx, dy, dd, R2.le, .inl (D1.mono E2.sub), D2, e3, fun v D => q v H2 G2 (E1.trans E2) R2 (.val D)⟩⟩⟩
end
end DP

/-! slices, calls, built-ins, what is walked, comprehensions -/
namespace DP
open PySem PySem.Spec PyProof.Rows L2
variable [CA : ClsA]
section
open HT
section
variable {prog : Program} {w : World} {A : Around} {E : Value → Shared → Prop} {s : Shared}
theorem sliceApplied_rev {sl : Addr} {vl vu vs : Value} {n : Nat} {Q : Int × Int × Nat → Shared → Prop} (hs : s.heap.IsSliceOf sl vl vu vs) (pl : IsPart vl none) (pu : IsPart vu none) (ps : IsPart vs (some (-1)))
    (h : Q ((n : Int) - 1, -1, n) s) : wpAny (model prog w) A (Builtin.Slice.sliceApplied (.ref sl) (pure (n : Int))) Q E s := by
  obtain ⟨os, hos, hcs, hds⟩ := id hs
  unfold Builtin.Slice.sliceApplied Builtin.Slice.sliceFields
  refine wpAny_bind (wpAny_bind (wpAny_field hos hds (x := vl) rfl (wpAny_bind (wpAny_field hos hds (x := vu) rfl (wpAny_bind (wpAny_field hos hds (x := vs) rfl (wpAny_pure ?_)))))))
  refine wpAny_bind (slicePart_ ps ?_)
  show wpAny _ _ (if ((-1 : Int) == 0) = true then _ else _) _ _ s
  rw [if_neg (by decide)]
  refine wpAny_bind (slicePart_ pl (wpAny_bind (slicePart_ pu (wpAny_bind (wpAny_pure ?_)))))
  show wpAny _ _ (pure ((n : Int) - 1, (-1 : Int), Builtin.Slice.slicePlaces ((n : Int) - 1) (-1) (-1))) _ _ s
  have e : Builtin.Slice.slicePlaces ((n : Int) - 1) (-1) (-1) = n := by
    unfold Builtin.Slice.slicePlaces
    rw [if_neg (by decide)]
    by_cases c : (n : Int) - 1 > -1
    · rw [if_pos c, show (-(-1) : Int) = 1 by decide, Int.ediv_one]; omega
    · rw [if_neg c]; omega
  rw [e]
  exact wpAny_pure h
theorem fm_some {α β : Type} {f : α → Option β} {g : α → β} : ∀ l : List α, (∀ m ∈ l, f m = some (g m)) → l.filterMap f = l.map g
  | [], _ => rfl
  | x :: l, h => by rw [List.filterMap_cons, h x (by simp), List.map_cons, fm_some l fun m hm => h m (by simp [hm])]
theorem pick_rev (xs : Array Value) : ((List.range xs.size).filterMap fun (m : Nat) => xs[(((xs.size : Int) - 1) + (m : Int) * (-1)).toNat]?).toArray = xs.toList.reverse.toArray := by
  congr 1
  apply List.ext_getElem?
  intro i
  rw [← Array.length_toList]
  generalize hl : xs.toList = l
  have ex : ∀ j : Nat, xs[j]? = l[j]? := fun j => by rw [← hl, Array.getElem?_toList]
  simp only [ex]
  have : (List.range l.length).filterMap (fun (m : Nat) => l[(((l.length : Int) - 1) + (m : Int) * (-1)).toNat]?) = (List.range l.length).map (fun m => l.getD (l.length - 1 - m) .none) := by
    refine fm_some _ fun m hm => ?_
    have hm := List.mem_range.mp hm
    have e : (((l.length : Int) - 1) + (m : Int) * (-1)).toNat = l.length - 1 - m := by omega
    rw [e, List.getD_eq_getElem?_getD, List.getElem?_eq_getElem (by omega)]; rfl
  rw [this]
  by_cases h : i < l.length
  · rw [List.getElem?_map, List.getElem?_range h, List.getElem?_reverse h, Option.map_some, List.getD_eq_getElem?_getD, List.getElem?_eq_getElem (by omega)]; rfl
  · rw [List.getElem?_eq_none (by simp; omega), List.getElem?_eq_none (by simp; omega)]
theorem getItem_tuple_rev {t sl : Addr} {items : Array Value} {vl vu vs : Value} {Q : Value → Shared → Prop} (ht : IsTup s.heap t items) (hs : s.heap.IsSliceOf sl vl vu vs) (pl : IsPart vl none) (pu : IsPart vu none) (ps : IsPart vs (some (-1)))
    (h : Q (.ref s.heap.objs.size) { s with heap := s.heap.push { cls := .type "tuple", data := .seq items.toList.reverse.toArray } })
    (hsz : items.size ≤ sizeLine) : wpAny (model prog w) A (getItem (.ref t) (.ref sl)) Q E s := by
  have htake : sizeOk (.seq items.toList.reverse.toArray) := by
    show items.toList.reverse.toArray.size ≤ sizeLine
    rw [List.size_toArray, List.length_reverse, Array.length_toList]
    exact hsz
  obtain ⟨os, hos, hcs, hds⟩ := id hs
  have hTs : s.TypeIs (.ref sl) "slice" := ⟨os, hos, hcs⟩
  unfold getItem
  try with_reducible refine wpAny_holding ?_
  first | refine wpAny_bind (wpAny_pure ?_) | skip
  refine wpAny_bind (wpAny_sequenceKey ht.typeIs (by decide) ?_)
  refine wpAny_bind (wpAny_callSpecial?_slot (name := Str.ofString "__getitem__") ht.typeIs PyProof.Rows.slot_tuple_getitem
    (wpAny_call_entry PyProof.Rows.slot_tuple_getitem ht.typeIs entry_tuple_getitem ?_ (args_tuple_getitem _ _)))
  show wpAny _ _ (Builtin.Tuple.tupleItemsOf (.ref t) >>= _) _ _ s
  refine wpAny_bind (tupleItemsOf_ ht ?_)
  refine wpAny_bind (wpAny_typeOf hTs ?_)
  rw [if_pos (by decide)]
  refine wpAny_bind (sliceApplied_rev hs pl pu ps ?_)
  have hno : ¬ ((((items.size : Int) - 1) == 0 && (-1 : Int) == 1 && items.size == items.size) = true) := by
    intro q
    rw [Bool.and_eq_true, Bool.and_eq_true] at q
    exact absurd q.1.2 (by decide)
  show wpAny _ _ (if (((items.size : Int) - 1) == 0 && (-1 : Int) == 1 && items.size == items.size) = true then _ else _) _ _ s
  rw [if_neg hno, pick_rev]
  first
    | exact wpAny_bind (m := Builtin.Tuple.tupleExact _) (wpAny_newObj_type (wpAny_pure ⟨_, rfl, wpAny_pure h⟩) htake)
    | exact wpAny_bind (m := Builtin.Tuple.tupleExact _) (wpAny_newObj_type (wpAny_bind (wpAny_pure (wpAny_pure ⟨_, rfl, wpAny_pure h⟩))) htake)
    | exact wpAny_bind (wpAny_bind (m := Builtin.Tuple.tupleExact _) (wpAny_newObj_type (wpAny_pure (wpAny_pure ⟨_, rfl, wpAny_pure h⟩)) htake))
    | exact wpAny_bind (wpAny_bind (m := Builtin.Tuple.tupleExact _) (wpAny_newObj_type (wpAny_pure ⟨_, rfl, wpAny_pure h⟩) htake))
end
/-- xs[::-1] of a list or a tuple -/
def tRevA (K : PySem.W.Frag) (te : TE) : TE := fun σ H Q => te σ H fun x H1 => ∃ a xs, x = .ref a ∧ ((SqL K H1 a xs ∧ ∀ p, H1 p = none → Q (.ref p) (upd H1 p (.lst xs.reverse))) ∨ (SqT K H1 a xs ∧ NewT H1 xs.reverse Q))
theorem pe_revA {X : Cx} {e : Expr} {te : TE} {k : Nat} {p1 p2 p3 pos : Pos} (he : PE X e te) : PE X (.Subscript e (.Slice none none (some (.UnaryOp .USub (.Constant (.int 1) k p1) p2)) p3) pos) (tRevA X.K te) := by
  refine ⟨fun pins s σ H Q I h => ?_⟩
  refine Subscript_ (thn (he.run pins s σ H _ I h) fun v s1 ⟨x, H1, I1, r1, q1⟩ => ?_)
  obtain ⟨a, xs, ex, q1⟩ := q1
  subst ex
  cases r1
  have hst : PO X (some (.UnaryOp .USub (.Constant (.int 1) k p1) p2)) (tPart (tUn (rU fun i => .int (-i)) (tC (.int 1)))) := po_some (pe_un un_neg pe_int)
  refine wpAny_Slice (thn (po_none.run pins s1 σ H1 (fun o H2 => o = none ∧ H2 = H1) I1 ⟨rfl, rfl⟩) fun vl s2 ⟨l, H2, I2, pl, el, e2⟩ => ?_)
  subst el e2
  refine thn (po_none.run pins s2 σ H2 (fun o H3 => o = none ∧ H3 = H2) I2 ⟨rfl, rfl⟩) fun vu s3 ⟨u, H3, I3, pu, eu, e3⟩ => ?_
  subst eu e3
  refine thn (hst.run pins s3 σ H3 (fun o H4 => o = some (-1) ∧ H4 = H3) I3 ⟨1, rfl, -1, rfl, rfl, rfl⟩) fun vs s4 ⟨o, H4, I4, ps, eo, e4⟩ => ?_
  subst eo e4
  have I5 : Inv X pins σ H4 { s4 with heap := s4.heap.push { cls := .type "slice", data := .fields #[vl, vu, vs] } } := I4.kept (t' := s4.toks) fun b ob q => Heap.get?_push_of_some _ q
  show wpAny (model X.prog X.w) X.A (subscriptTail e (.Slice none none (some (.UnaryOp .USub (.Constant (.int 1) k p1) p2)) p3) (.ref a) (.ref s4.heap.objs.size)) (EP X pins σ Q) X.xe { s4 with heap := s4.heap.push { cls := .type "slice", data := .fields #[vl, vu, vs] } }
  rcases q1 with ⟨hx, q⟩ | ⟨hx, q⟩
  · obtain ⟨its, r, ht, hz⟩ := I5.list hx
    have hlen := r.length
    refine tail_any (ops := [.ref a, .ref s4.heap.objs.size]) ht.isList.typeIs (PySem.slot_list_getitem.lookup) ?_ (by with_unfolding_all rfl)
    refine wpAny_getItem_list_slice ht.isList (Heap.IsSliceOf.new _ vl vu vs) pl pu ps (by decide) ?_ (by rw [List.size_toArray]; omega)
    rw [PySem.W.krv_pick]
    refine ⟨.ref _, _, I5.laid (t' := s4.toks) (o := .lst xs.reverse) (fun b ob q => Heap.get?_push_of_some _ q) (Nat.le_refl _) ?_, rfl, q _ (I5.hok.fresh (Nat.le_refl _))⟩
    exact ⟨by rw [List.length_reverse]; exact hz, _, 0, r.reverse, Heap.get?_push_size _ rfl⟩
  · obtain ⟨its, r, ht, hz⟩ := I5.tuple hx
    have hlen := r.length
    refine tail_any (ops := [.ref a, .ref s4.heap.objs.size]) ht.typeIs (PyProof.Rows.slot_tuple_getitem.lookup) ?_ (by with_unfolding_all rfl)
    refine getItem_tuple_rev ht (Heap.IsSliceOf.new _ vl vu vs) pl pu ps ?_ (by rw [List.size_toArray]; omega)
    exact newT_laid (tk := s4.toks) I5 r.reverse (by rw [List.length_reverse]; exact hz) q
end

/-! ### a hot slot's list is written -/
theorem slotL_at {G H : Hp} {σ : St} {ρ : Rho} {j : Nat} {ds : List D} (R : Rel G H σ ρ) (h : slotL ρ j = some ds) :
    ∃ a xs sv, σ[j]? = some (some (.ref a)) ∧ ρ[j]? = some sv ∧ hot sv = true ∧ H a = some (.lst xs) ∧ G a = none ∧ Drs G xs ds := by
  unfold slotL at h
  cases z : rd ρ j with
  | val d => rw [z] at h; cases h
  | own es =>
    rw [z] at h
    cases h
    have z2 := rd_get z (by intro z; cases z)
    obtain ⟨o, h1, h2⟩ := R.at z2
    cases h2 with
    | own x1 x2 x3 => exact ⟨_, _, _, h1, z2, rfl, x1, x2, x3⟩
  | row es =>
    rw [z] at h
    cases h
    have z2 := rd_get z (by intro z; cases z)
    obtain ⟨o, h1, h2⟩ := R.at z2
    cases h2 with
    | row x1 x2 x3 => exact ⟨_, _, _, h1, z2, rfl, x1, x2, x3⟩
  | un => rw [z] at h; cases h
  | dct lk kvs => rw [z] at h; cases h
  | dk kvs => rw [z] at h; cases h
  | gho ds => rw [z] at h; cases h
  | oll lo n => rw [z] at h; cases h
  | rdc kvs => rw [z] at h; cases h
  | obj _ => rw [z] at h; cases h
theorem putL_is {ρ ρ2 : Rho} {j : Nat} {es : List D} (h : putL ρ j es = some ρ2) : (∃ ds, ρ[j]? = some (.own ds) ∧ ρ2 = ρ.set j (.own es)) ∨ (∃ ds, ρ[j]? = some (.row ds) ∧ ρ2 = ρ.set j (.row es)) := by
  unfold putL at h
  cases z : rd ρ j with
  | own ds => rw [z] at h; exact .inl ⟨ds, rd_get z (by intro z; cases z), (Option.some.inj h).symm⟩
  | row ds => rw [z] at h; exact .inr ⟨ds, rd_get z (by intro z; cases z), (Option.some.inj h).symm⟩
  | val d => rw [z] at h; cases h
  | un => rw [z] at h; cases h
  | dct lk kvs => rw [z] at h; cases h
  | dk kvs => rw [z] at h; cases h
  | gho ds => rw [z] at h; cases h
  | oll lo n => rw [z] at h; cases h
  | rdc kvs => rw [z] at h; cases h
  | obj _ => rw [z] at h; cases h
theorem Rel.wroteX {G H G' H' : Hp} {σ : St} {ρ : Rho} (R : Rel G H σ ρ) {j : Nat} {a : Addr} {u : HO} {sv0 sv : SV} (ha : σ[j]? = some (some (.ref a))) (h0 : ρ[j]? = some sv0) (hh0 : hot sv0 = true) (hh : hot sv = true)
    (s1 : Same G G') (s2 : Same G' H') (kp : ∀ b o, b ≠ a → H b = some o → H' b = some o) (cl : ∀ b o, b ≠ a → H b = some o → G b = none → NT o → G' b = none) (h : H' a = some u) (sl : SlotR G' H' (some (.ref a)) sv) (hrow : ∀ b, lnt sv0 = some b → lnt sv = some b) (ht : tied sv = false ∨ ∃ ds es, sv0 = .gho ds ∧ sv = .gho es) :
    Ext G H σ ρ G' H' σ (ρ.set j sv) ∧ Rel G' H' σ (ρ.set j sv) ∧ ∀ b, HotAt σ (ρ.set j sv) b → HotAt σ ρ b := by
  have hotA : HotAt σ ρ a := ⟨j, _, ha, h0, hh0⟩
  have back : ∀ b, HotAt σ (ρ.set j sv) b → HotAt σ ρ b := fun b ⟨k, w, k1, k2, k3⟩ => by
    rcases set_at k2 with ⟨rfl, rfl⟩ | ⟨hk, k2⟩
    · rw [ha] at k1; cases k1; exact hotA
    · exact ⟨k, w, k1, k2, k3⟩
  have hjl : j < ρ.length := (List.getElem?_eq_some_iff.mp h0).1
  refine ⟨⟨s1, fun b o hb hn => kp b o (fun z => hn (by rw [z]; exact hotA)) hb, fun b o hb hg hn t => cl b o (fun z => hn (by rw [z]; exact hotA)) hb hg t, fun b hb => ?_, fun b hb => .inl (back b hb), fun k b ds k1 k2 => ⟨k1, ?_⟩⟩, ⟨s2, by rw [List.length_set]; exact R.len, fun k o w k1 k2 => ?_, fun k l b w w' k1 k2 k3 l1 l2 l3 => ?_, ?_⟩, back⟩
  · cases z : H b with
    | none => rfl
    | some o =>
      by_cases hba : b = a
      · subst hba; rw [h] at hb; cases hb
      · rw [kp b o hba z] at hb; cases hb
  · by_cases hk : j = k
    · subst hk
      rw [h0] at k2
      rw [List.getElem?_set_self hjl]
      exact hrow _ k2
    · rw [List.getElem?_set_ne hk]; exact k2
  · rcases set_at k2 with ⟨rfl, rfl⟩ | ⟨hk, k2'⟩
    · rw [ha] at k1; cases k1; exact sl
    · have q0 := R.slot k o w k1 k2'
      have apart : ∀ b, o = some (.ref b) → hot w = true → b ≠ a := fun b eb hw z => hk (by subst eb; subst z; exact R.sep k j _ _ _ k1 k2' hw ha h0 hh0)
      cases q0 with
      | un => exact .un _
      | val q0 => exact .val (q0.mono s1)
      | own x1 x2 x3 => exact .own (kp _ _ (apart _ rfl rfl) x1) (cl _ _ (apart _ rfl rfl) x1 x2 nt_lst) (x3.mono s1)
      | row x1 x2 x3 => exact .row (kp _ _ (apart _ rfl rfl) x1) (cl _ _ (apart _ rfl rfl) x1 x2 nt_lst) (x3.mono s1)
      | dct x1 x2 x3 => exact .dct (kp _ _ (apart _ rfl rfl) x1) (cl _ _ (apart _ rfl rfl) x1 x2 nt_dT) (x3.mono s1)
      | rdc x1 x2 x3 => exact .rdc (kp _ _ (apart _ rfl rfl) x1) (cl _ _ (apart _ rfl rfl) x1 x2 nt_dT) (x3.mono s1)
      | obj x1 x2 x3 => exact .obj (kp _ _ (apart _ rfl rfl) x1) (cl _ _ (apart _ rfl rfl) x1 x2 nt_ins) (x3.mono s1)
      | dcf x1 x2 => exact .dcf (s1 _ _ x1) (x2.mono s1)
      | dk x1 x2 x3 => exact .dk (kp _ _ (apart _ rfl rfl) x1) (cl _ _ (apart _ rfl rfl) x1 x2 nt_dK) (x3.mono s1)
      | gho x1 x2 x3 => exact .gho (kp _ _ (apart _ rfl rfl) x1) (cl _ _ (apart _ rfl rfl) x1 x2 nt_lst) (x3.mono s1)
      | oll o lo n => exact .oll o lo n
  · have kk : ∃ w0, ρ[k]? = some w0 ∧ hot w0 = true := by
      rcases set_at k2 with ⟨rfl, _⟩ | ⟨_, k2⟩
      · exact ⟨_, h0, hh0⟩
      · exact ⟨_, k2, k3⟩
    have ll : ∃ w0, ρ[l]? = some w0 ∧ hot w0 = true := by
      rcases set_at l2 with ⟨rfl, _⟩ | ⟨_, l2⟩
      · exact ⟨_, h0, hh0⟩
      · exact ⟨_, l2, l3⟩
    obtain ⟨w0, q1, q2⟩ := kk
    obtain ⟨w1, q3, q4⟩ := ll
    exact R.sep k l b w0 w1 k1 q1 q2 l1 q3 q4
  · rcases ht with ht | ⟨ds, es, rfl, rfl⟩
    · exact (R.tie.mono s1).setR ht
    · exact (R.tie.mono s1).gho h0
theorem Rel.wrote {G H G' H' : Hp} {σ : St} {ρ ρ2 : Rho} (R : Rel G H σ ρ) {j : Nat} {a : Addr} {xs : List V} {es : List D} (ha : σ[j]? = some (some (.ref a))) (e : putL ρ j es = some ρ2)
    (s1 : Same G G') (s2 : Same G' H') (kp : ∀ b o, b ≠ a → H b = some o → H' b = some o) (cl : ∀ b o, b ≠ a → H b = some o → G b = none → NT o → G' b = none) (g : G' a = none) (h : H' a = some (.lst xs)) (q : Drs G' xs es) :
    Ext G H σ ρ G' H' σ ρ2 ∧ Rel G' H' σ ρ2 ∧ ∀ b, HotAt σ ρ2 b → HotAt σ ρ b := by
  rcases putL_is e with ⟨ds, h0, rfl⟩ | ⟨ds, h0, rfl⟩
  · exact R.wroteX ha h0 rfl rfl s1 s2 kp cl h (.own h g q) (fun _ z => nomatch z) (.inl rfl)
  · exact R.wroteX ha h0 rfl rfl s1 s2 kp cl h (.row h g q) (fun _ z => z) (.inl rfl)
/-- the list at a, written in place, all else as it was -/
theorem Rel.write {G H : Hp} {σ : St} {ρ ρ2 : Rho} (R : Rel G H σ ρ) {j : Nat} {a : Addr} {xs : List V} {es : List D} (ha : σ[j]? = some (some (.ref a))) (hg : G a = none) (e : putL ρ j es = some ρ2) (q : Drs G xs es) :
    Ext G H σ ρ G (upd H a (.lst xs)) σ ρ2 ∧ Rel G (upd H a (.lst xs)) σ ρ2 := by
  have w := R.wrote (G' := G) (H' := upd H a (.lst xs)) ha e (Same.refl _) (fun b o hb => ?_) (fun b o hb h => by rw [upd_ne hb]; exact h) (fun b o _ _ g _ => g) hg upd_same q
  · exact ⟨w.1, w.2.1⟩
  · rw [upd_ne (fun z => by rw [z, hg] at hb; cases hb)]
    exact R.le b o hb

section
variable {X : Cx} {c : FT} {a b d i lo hi es : E} {a0 b0 d0 i0 : Expr} {pos : Pos}
/-! ### slices -/
def tO (c : FT) (e : E) : TO := fun σ H Q => ∃ G ρ o ρ', Rel G H σ ρ ∧ prt ρ e (ev c e ρ) = some (o, ρ') ∧ ∀ H' G', Ext G H σ ρ G' H' σ ρ' → Rel G' H' σ ρ' → Q o H'
theorem o_none (h : isNil a = true) : PO X none (tO c a) := PO.le po_none fun σ H Q ⟨G, ρ, o, ρ', R, e, q⟩ => by
  unfold prt at e
  rw [h] at e
  cases e
  exact q H G Ext.refl R
theorem o_some (hn : isNil a = false) (h : PE X a0 (tE c a)) : PO X (some a0) (tO c a) := PO.le (po_some (sD h)) fun σ H Q ⟨G, ρ, o, ρ', R, e, q⟩ => by
  unfold prt at e
  rw [hn] at e
  obtain ⟨sv, ρ1, dd, e1, z1, e⟩ := bz_some e
  obtain ⟨o', e2, e⟩ := ob_some e
  cases e
  refine ⟨G, ρ, sv, dd, _, R, e1, z1, fun v H1 G1 E1 R1 D1 => ?_⟩
  cases D1 with
  | int n => cases e2; exact ⟨n, rfl, q H1 G1 E1 R1⟩
  | _ => cases e2
theorem s_slice {l0 h0 : Option Expr} {p2 : Pos} (hv : ∀ j, a = .var j → PE X a0 (tVar j)) (ha : PE X a0 (tE c a)) (hl : PO X l0 (tO c lo)) (hh : PO X h0 (tO c hi)) : PE X (.Subscript a0 (.Slice l0 h0 none p2) pos) (tE c (.slice a lo hi)) := by
  cases ea : isVar a with
  | some j =>
    have e0 : a = .var j := by cases a <;> first | (cases ea; rfl) | cases ea
    subst e0
    refine PE.le (pe_slice sli_ok (hv j rfl) hl hh) fun σ H Q ⟨G, ρ, sv, ρ', R, e, q⟩ => ?_
    unfold ev at e
    simp only [isVar] at e
    obtain ⟨d0, e0, e⟩ := ob_some e
    obtain ⟨l, ρ2, e1, e⟩ := bd_some e
    obtain ⟨h, ρ3, e2, e⟩ := bd_some e
    obtain ⟨x, e3, e⟩ := ob_some e
    obtain ⟨w, e4, e⟩ := ob_some e
    cases e
    obtain ⟨v0, hv0, _⟩ := slot_rd R e0
    refine ⟨v0, hv0, G, ρ, l, ρ2, R, e1, fun H1 G1 E1 R1 => ⟨G1, ρ2, h, _, R1, e2, fun H2 G2 E2 R2 => ?_⟩⟩
    obtain ⟨v, k1, k2⟩ := slot_rd R2 e3
    rw [hv0] at k1
    cases k1
    refine ⟨G2, x, sv, R2.le, k2, e4, fun v H3 N => ?_⟩
    obtain ⟨G3, E3, R3, S3⟩ := fin_new R2 N
    exact q v H3 G3 ((E1.trans E2).trans E3) R3 (S3.older (E1.trans E2).dom)
  | none =>
    refine PE.le (pe_slice sli_ok (sD ha) hl hh) fun σ H Q ⟨G, ρ, sv, ρ', R, e, q⟩ => ?_
    unfold ev at e
    simp only [ea] at e
    obtain ⟨sva, ρ1, dx, e0, z0, e⟩ := bz_some e
    obtain ⟨l, ρ2, e1, e⟩ := bd_some e
    obtain ⟨h, ρ3, e2, e⟩ := bd_some e
    obtain ⟨w, e4, e⟩ := ob_some e
    cases e
    refine ⟨G, ρ, sva, dx, ρ1, R, e0, z0, fun x H0 G0 E0 R0 D0 => ⟨G0, ρ1, l, ρ2, R0, e1, fun H1 G1 E1 R1 => ⟨G1, ρ2, h, _, R1, e2, fun H2 G2 E2 R2 => ⟨G2, dx, sv, R2.le, .inl (D0.mono (E1.trans E2).sub), e4, fun v H3 N => ?_⟩⟩⟩⟩
    obtain ⟨G3, E3, R3, S3⟩ := fin_new R2 N
    exact q v H3 G3 ((E0.trans (E1.trans E2)).trans E3) R3 (S3.older (E0.trans (E1.trans E2)).dom)
theorem s_rev {k : Nat} {p1 p2 p3 : Pos} (hv : ∀ j, a = .var j → PE X a0 (tVar j)) (ha : PE X a0 (tE c a)) : PE X (.Subscript a0 (.Slice none none (some (.UnaryOp .USub (.Constant (.int 1) k p1) p2)) p3) pos) (tE c (.rev a)) :=
  PE.le (pe_revA (sR hv ha)) fun σ H Q ⟨G, ρ, sv, ρ', R, e, q⟩ => by
    unfold ev at e
    obtain ⟨x, ρ1, e1, e⟩ := bd_some e
    have hx : (∃ ds, x = .list ds) ∨ ∃ ds, x = .tuple ds := by cases x <;> first | exact .inl ⟨_, rfl⟩ | exact .inr ⟨_, rfl⟩ | cases e
    rcases hx with ⟨ds, rfl⟩ | ⟨ds, rfl⟩
    · cases e
      refine ⟨G, ρ, .list ds, _, R, e1, fun v H1 G1 E1 R1 D1 => ?_⟩
      obtain ⟨p, xs, rfl, ra, hS⟩ : ∃ p xs, v = .ref p ∧ Drs G1 xs ds ∧ SqL X.K H1 p xs := by
        rcases D1 with D1 | ⟨p, xs, es, rfl, h1, h2, h3⟩
        · cases D1 with
          | lst h1 h2 => exact ⟨_, _, rfl, h2, SqL.of (R1.le _ _ h1)⟩
        · cases h3; exact ⟨p, xs, rfl, h2, SqL.of h1⟩
      refine ⟨p, xs, rfl, .inl ⟨hS, fun r nr => ?_⟩⟩
      obtain ⟨G3, E3, R3, S3⟩ := fin_new R1 (svn_lst R1.le ra.rev nr)
      exact q _ _ G3 (E1.trans E3) R3 (S3.older E1.dom)
    · cases e
      refine ⟨G, ρ, .tuple ds, _, R, e1, fun v H1 G1 E1 R1 D1 => ?_⟩
      obtain ⟨p, xs, rfl, ra, hS⟩ : ∃ p xs, v = .ref p ∧ Drs G1 xs ds ∧ SqT X.K H1 p xs := by
        rcases D1 with D1 | ⟨p, xs, es, rfl, h1, h2, h3⟩
        · cases D1 with
          | tup h1 h2 => exact ⟨_, _, rfl, h2, (h1.mono R1.le).sq⟩
        · cases h3
      refine ⟨p, xs, rfl, .inr ⟨hS, fun r o nr hd => ?_⟩⟩
      obtain ⟨G3, E3, R3, S3⟩ := fin_new R1 (svn_tup R1.le ra.rev nr hd)
      exact q _ _ G3 (E1.trans E3) R3 (S3.older E1.dom)

/-! ### built-ins -/
def nmB1 : B1 → String
  | .len => "len"
  | .sum => "sum"
  | .tuple => "tuple"
  | .list => "list"
  | .int => "int"
  | .abs => "abs"
  | .max => "max"
  | .min => "min"
  | .sorted => "sorted"
  | .str => "str"
def tyB1 : B1 → Bool
  | .tuple => true
  | .list => true
  | .int => true
  | .str => true
  | _ => false
def valB1 (f : B1) : Value := if tyB1 f then .type (nmB1 f) else .builtin (nmB1 f)
theorem b1_call (hc : X.calm = true) (hu : X.A.units + 66 < cLine) (f : B1) : CallR X (valB1 f) (rB1 f) := by
  cases f with
  | len => exact b1_len
  | sum => exact b1_sum hc
  | tuple => exact b1_tuple
  | list => exact b1_list hc
  | int => exact b1_int
  | abs => exact b1_abs
  | max => exact b1_max hc hu
  | min => exact b1_min hc hu
  | sorted => exact b1_sorted hu
  | str => exact b1_str
theorem boot_b1 (f : B1) : bootBuiltins (Str.ofString (nmB1 f)) = some (valB1 f) := by cases f <;> decide +kernel
theorem nm_b1 (f : B1) : Str.ofString (nmB1 f) ≠ Str.ofString "__name__" ∧ (Str.ofString (nmB1 f) == Str.ofString "__debug__") = false := by cases f <;> decide +kernel
theorem a_one {t : TE} (hs : starEach [a0] X.env = (false, eval a0 X.env) :: starEach [] X.env) (ha : PE X a0 t) : PA X [a0] (tCons t tNil) := pa_cons ha pa_nil hs
theorem s_blt1 {f : B1} {p : Pos} (hc : X.calm = true) (hu : X.A.units + 66 < cLine) (hg : Gl X (Str.ofString (nmB1 f))) (hm : X.mg (Str.ofString (nmB1 f)) = none) (hs : starEach [a0] X.env = (false, eval a0 X.env) :: starEach [] X.env)
    (hv : ∀ j, a = .var j → PE X a0 (tVar j)) (ha : PE X a0 (tE c a)) : PE X (.Call (.Name (Str.ofString (nmB1 f)) p) [a0] [] pos) (tE c (.blt1 f a)) := by
  have go : PE X (.Call (.Name (Str.ofString (nmB1 f)) p) [a0] [] pos) (tCB (rB1 f) (tCons (tR c a) tNil)) := by
    have h1 := b1_call (X := X) hc hu f
    have h2 := boot_b1 f
    have h3 := nm_b1 f
    unfold valB1 at h1 h2
    cases z : tyB1 f with
    | true => rw [z] at h1 h2; exact pe_callTy h1 hg hm h2 (a_one hs (sR hv ha)) h3.1 h3.2 hs rfl
    | false => rw [z] at h1 h2; exact pe_callB h1 hg hm h2 (a_one hs (sR hv ha)) h3.1 h3.2 hs rfl
  refine PE.le go fun σ H Q ⟨G, ρ, sv, ρ', R, e, q⟩ => ?_
  unfold ev at e
  obtain ⟨x, ρ1, e1, e⟩ := bd_some e
  obtain ⟨w, e2, e⟩ := ob_some e
  cases e
  refine ⟨G, ρ, x, _, R, e1, fun v H1 G1 E1 R1 D1 => ⟨v, G1, x, sv, rfl, R1.le, D1, e2, fun v2 H2 N => ?_⟩⟩
  obtain ⟨G3, E3, R3, S3⟩ := fin_new R1 N
  exact q _ _ G3 (E1.trans E3) R3 (S3.older E1.dom)
def nmB2 : B2 → String
  | .max => "max"
  | .min => "min"
theorem boot_b2 (f : B2) : bootBuiltins (Str.ofString (nmB2 f)) = some (.builtin (nmB2 f)) := by cases f <;> decide +kernel
theorem nm_b2 (f : B2) : Str.ofString (nmB2 f) ≠ Str.ofString "__name__" ∧ (Str.ofString (nmB2 f) == Str.ofString "__debug__") = false := by cases f <;> decide +kernel
theorem s_blt2 {f : B2} {p : Pos} (hc : X.calm = true) (hg : Gl X (Str.ofString (nmB2 f))) (hm : X.mg (Str.ofString (nmB2 f)) = none) (hs : starEach [a0, b0] X.env = (false, eval a0 X.env) :: starEach [b0] X.env) (hs2 : starEach [b0] X.env = (false, eval b0 X.env) :: starEach [] X.env)
    (hpl : (backTo pos (starEach [b0] X.env)).any (·.1) = false) (ha : PE X a0 (tE c a)) (hb : PE X b0 (tE c b)) : PE X (.Call (.Name (Str.ofString (nmB2 f)) p) [a0, b0] [] pos) (tE c (.blt2 f a b)) := by
  have go : PE X (.Call (.Name (Str.ofString (nmB2 f)) p) [a0, b0] [] pos) (tCB (rB2 f) (tCons (tD c a) (tCons (tD c b) tNil))) := by
    have h1 : CallR X (.builtin (nmB2 f)) (rB2 f) := by
      cases f with
      | max => exact b2_max hc
      | min => exact b2_min hc
    exact pe_callB h1 hg hm (boot_b2 f) (pa_cons (sD ha) (pa_cons (sD hb) pa_nil hs2) hs) (nm_b2 f).1 (nm_b2 f).2 hs hpl
  refine PE.le go fun σ H Q ⟨G, ρ, sv, ρ', R, e, q⟩ => ?_
  unfold ev at e
  obtain ⟨sva, ρ1, dx, e1, z1, e⟩ := bz_some e
  obtain ⟨svb, ρ2, dy, e2, z2, e⟩ := bz_some e
  obtain ⟨w, e3, e⟩ := ob_some e
  cases e
  exact ⟨G, ρ, sva, dx, _, R, e1, z1, fun x H1 G1 E1 R1 D1 => ⟨G1, _, svb, dy, _, R1, e2, z2, fun y H2 G2 E2 R2 D2 => ⟨x, y, G2, dx, dy, w, rfl, R2.le, D1.mono E2.sub, D2, e3, fun v D => q v H2 G2 (E1.trans E2) R2 (.val D)⟩⟩⟩

/-! ### isinstance -/
theorem boot_ty (t : Ty) : bootBuiltins (Str.ofString (tyS t)) = some (.type (tyS t)) := by cases t <;> decide +kernel
theorem nm_ty (t : Ty) : Str.ofString (tyS t) ≠ Str.ofString "__name__" ∧ (Str.ofString (tyS t) == Str.ofString "__debug__") = false := by cases t <;> decide +kernel
theorem p_ty {t : Ty} {p : Pos} (hg : Gl X (Str.ofString (tyS t))) (hm : X.mg (Str.ofString (tyS t)) = none) : PE X (.Name (Str.ofString (tyS t)) p) (tC (.ty (tyS t))) :=
  pe_bltn hg hm (boot_ty t) rfl (nm_ty t).1 (nm_ty t).2
theorem boot_isi : bootBuiltins (Str.ofString "isinstance") = some (.builtin "isinstance") := by decide +kernel
theorem s_isi {t : Ty} {p p2 : Pos} (hg : Gl X (Str.ofString "isinstance")) (hm : X.mg (Str.ofString "isinstance") = none) (hg2 : Gl X (Str.ofString (tyS t))) (hm2 : X.mg (Str.ofString (tyS t)) = none)
    (hs : ∀ r, starEach (a0 :: r) X.env = (false, eval a0 X.env) :: starEach r X.env) (ha : PE X a0 (tE c a)) : PE X (.Call (.Name (Str.ofString "isinstance") p) [a0, .Name (Str.ofString (tyS t)) p2] [] pos) (tE c (.isi a t)) := by
  have go := pe_callB (pos := pos) (p := p) (call_isi (X := X)) hg hm boot_isi (pa_cons (sD ha) (pa_cons (p_ty (p := p2) hg2 hm2) pa_nil) (hs _)) (by decide +kernel) (by decide +kernel) (hs _)
  refine PE.le go fun σ H Q ⟨G, ρ, sv, ρ', R, e, q⟩ => ?_
  unfold ev at e
  obtain ⟨sva, ρ1, dx, e1, z1, e⟩ := bz_some e
  obtain ⟨k, e2, e⟩ := ob_some e
  cases e
  refine ⟨G, ρ, sva, dx, _, R, e1, z1, fun x H1 G1 E1 R1 D1 => ?_⟩
  obtain ⟨tv, k1, k2⟩ := kit_yes (K := X.K) R1.le D1
  exact ⟨x, .ty (tyS t), tv, .type (tyS t), k, rfl, .ty _, k1, k2 _ _ e2, q _ H1 G1 E1 R1 (.val (.bl _))⟩
theorem s_isi2 {t u : Ty} {p p2 p3 p4 : Pos} {k4 : Nat} (hg : Gl X (Str.ofString "isinstance")) (hm : X.mg (Str.ofString "isinstance") = none) (hg2 : Gl X (Str.ofString (tyS t))) (hm2 : X.mg (Str.ofString (tyS t)) = none)
    (hg3 : Gl X (Str.ofString (tyS u))) (hm3 : X.mg (Str.ofString (tyS u)) = none)
    (hs : ∀ r, starEach (a0 :: r) X.env = (false, eval a0 X.env) :: starEach r X.env) (ha : PE X a0 (tE c a)) :
    PE X (.Call (.Name (Str.ofString "isinstance") p) [a0, .Tuple [.Name (Str.ofString (tyS t)) p2, .Name (Str.ofString (tyS u)) p3] k4 p4] [] pos) (tE c (.isi2 a t u)) := by
  have go := pe_callB (pos := pos) (p := p) (call_isiT (X := X)) hg hm boot_isi (pa_cons (sD ha) (pa_cons (pe_tup (x1 := k4) (pos := p4) (pa_cons (p_ty (p := p2) hg2 hm2) (pa_cons (p_ty (p := p3) hg3 hm3) pa_nil))) pa_nil) (hs _)) (by decide +kernel) (by decide +kernel) (hs _)
  refine PE.le go fun σ H Q ⟨G, ρ, sv, ρ', R, e, q⟩ => ?_
  unfold ev at e
  obtain ⟨sva, ρ1, dx, e1, z1, e⟩ := bz_some e
  obtain ⟨k, e2, e⟩ := ob_some e
  obtain ⟨l, e3, e⟩ := ob_some e
  cases e
  refine ⟨G, ρ, sva, dx, _, R, e1, z1, fun x H1 G1 E1 R1 D1 => ⟨by show 2 ≤ sizeLine; decide, fun r nr => ?_⟩⟩
  have s1 : Same H1 (upd H1 r (.tup [.ty (tyS t), .ty (tyS u)])) := same_upd nr
  have R2 : Rel G1 (upd H1 r (.tup [.ty (tyS t), .ty (tyS u)])) σ ρ' := R1.grow (Same.refl _) (R1.le.trans s1) fun b xs z h => ⟨s1 _ _ h, R1.hotG z⟩
  have E2 : Ext G1 H1 σ ρ' G1 (upd H1 r (.tup [.ty (tyS t), .ty (tyS u)])) σ ρ' := ⟨Same.refl _, fun b o h _ => s1 b o h, fun _ _ _ g _ _ => g, fun b h => s1.free h, fun _ h => .inl h, fun _ _ _ h1 h2 => ⟨h1, h2⟩⟩
  obtain ⟨tv, k1, k2⟩ := kit_yes (K := X.K) R2.le D1
  exact ⟨x, r, [.ty (tyS t), .ty (tyS u)], tv, [.type (tyS t), .type (tyS u)], k || l, rfl, upd_same, .cons (.ty _) (.cons (.ty _) .nil), k1,
    kitAny_cons (k2 _ _ e2) (fun hb => by subst hb; exact kitAny_cons (k2 _ _ e3) (fun hb => by subst hb; exact kitAny_nil) fun hb => by subst hb; rfl) (fun hb => by subst hb; rfl),
    q _ _ G1 (E1.trans E2) R2 (.val (.bl _))⟩

/-! ### methods of lists -/
def nmMf : Mf → String
  | .count => "count"
  | .index => "index"
theorem meth_kind {m : Mf} {dx dy d : D} (e : methD m dx dy = some d) : kndD dx = 1 ∨ ∃ ds, dx = .tuple ds := by
  cases m <;> cases dx <;> first | exact .inl rfl | exact .inr ⟨_, rfl⟩ | cases e
theorem list_ty {K : PySem.W.Frag} {G H : Hp} {v : V} {dx : D} (le : Same G H) (h : RdR G H v dx) (e : kndD dx = 1) : tyV K "list" v H := by
  rcases h with h | ⟨a, xs, ds, rfl, ha, ra, rfl⟩
  · cases h with
    | lst ha ra => exact .inl ⟨rfl, _, SqL.of (le _ _ ha)⟩
    | _ => cases e
  · exact .inl ⟨rfl, _, SqL.of ha⟩
theorem tup_ty {G H : Hp} {v : V} {ds : List D} (h : RdR G H v (.tuple ds)) : ∃ p xs, v = .ref p ∧ TF G p xs ∧ Drs G xs ds := by
  rcases h with h | ⟨_, _, _, _, _, _, z⟩
  · cases h with
    | tup ha ra => exact ⟨_, _, rfl, ha, ra⟩
  · cases z
theorem s_meth {m : Mf} {ap : Pos} {k : Nat} (hr : Room k X.A) (hc : X.calm = true) (hbase : attributeBase a0 (Str.ofString (nmMf m)) X.env (eval a0 X.env) = eval a0 X.env)
    (hfew : ((backTo pos (starEach [b0] X.env)).all (fun x => !x.1) && (backToKw pos (keywordEach [] X.env)).all (fun x => x.1.isSome)
      && decide ([b0].length + ([] : List Keyword).length + (if ([] : List Keyword).isEmpty then 0 else 1) < 30)) = true)
    (hline : (ap.endLine == pos.line) = true) (hs : starEach [b0] X.env = (false, eval b0 X.env) :: starEach [] X.env) (hv : ∀ j, a = .var j → PE X a0 (tVar j)) (ha : PE X a0 (tE c a)) (hb : PE X b0 (tE c b)) :
    PE X (.Call (.Attribute a0 (Str.ofString (nmMf m)) ap) [b0] [] pos) (tE c (.meth m a b)) := by
  have hu : X.A.units + 65 < cLine := by have := hr.un; omega
  have go : ∀ to, PE X a0 to → PE X (.Call (.Attribute a0 (Str.ofString (nmMf m)) ap) [b0] [] pos) (tBX X.K (rMf m) (rMfT m) to (tCons (tD c b) tNil)) := fun to hto => by
    cases m with
    | count => exact pe_bmX PySem.F.slot_list_count PySem.F.type_list_count (m_count hu) PySem.F.slot_tuple_count PySem.F.type_tuple_count (m_countT hu) hto (a_one hs (sD hb)) hbase hfew hline hs
    | index => exact pe_bmX PySem.F.slot_list_index PySem.F.type_list_index (m_index hu) PySem.F.slot_tuple_index PySem.F.type_tuple_index (m_indexT hu) hto (a_one hs (sD hb)) hbase hfew hline hs
  cases ea : isVar a with
  | some j =>
    have e0 : a = .var j := by cases a <;> first | (cases ea; rfl) | cases ea
    subst e0
    refine PE.le (go _ (hv j rfl)) fun σ H Q ⟨G, ρ, sv, ρ', R, e, q⟩ => ?_
    unfold ev at e
    simp only [isVar] at e
    obtain ⟨x0, e0, e⟩ := ob_some e
    obtain ⟨svb, ρ1, dy, e1, z1, e⟩ := bz_some e
    obtain ⟨dx, e2, e⟩ := ob_some e
    have hk : kndD x0 = kndD dx := by
      by_cases z : kndD x0 = kndD dx
      · exact z
      · rw [if_neg z] at e; cases e
    rw [if_pos hk] at e
    obtain ⟨dd, e3, e⟩ := ob_some e
    cases e
    obtain ⟨v0, hv0, r0⟩ := slot_rd R e0
    rcases meth_kind e3 with k1 | ⟨ds, rfl⟩
    · refine ⟨v0, hv0, .inl ⟨list_ty R.le r0 (hk.trans k1), G, ρ, svb, dy, ρ', R, e1, z1, fun y H2 G2 E2 R2 D2 => ?_⟩⟩
      obtain ⟨v, h1, h2⟩ := slot_rd R2 e2
      rw [hv0] at h1
      cases h1
      exact ⟨y, G2, dx, dy, dd, rfl, R2.le, h2, D2, e3, k1, fun v D => q v H2 G2 E2 R2 (.val D)⟩
    · have z0 : ∃ es, x0 = .tuple es := by
        cases x0 <;> first | exact ⟨_, rfl⟩ | cases hk
      obtain ⟨es, rfl⟩ := z0
      obtain ⟨p, xs, rfl, hT, _⟩ := tup_ty r0
      refine ⟨.ref p, hv0, .inr ⟨⟨p, xs, rfl, hT.mono R.le⟩, G, ρ, svb, dy, ρ', R, e1, z1, fun y H2 G2 E2 R2 D2 => ?_⟩⟩
      obtain ⟨v, h1, h2⟩ := slot_rd R2 e2
      rw [hv0] at h1
      cases h1
      obtain ⟨p2, ys, hp, hT2, r2⟩ := tup_ty h2
      cases hp
      exact ⟨y, G2, p, ys, ds, dy, dd, rfl, rfl, R2.le, hT2, r2, D2, e3, fun v D => q v H2 G2 E2 R2 (.val D)⟩
  | none =>
    refine PE.le (go _ (sD ha)) fun σ H Q ⟨G, ρ, sv, ρ', R, e, q⟩ => ?_
    unfold ev at e
    simp only [ea] at e
    obtain ⟨sva, ρ1, dx, e1, z1, e⟩ := bz_some e
    obtain ⟨svb, ρ2, dy, e2, z2, e⟩ := bz_some e
    obtain ⟨dd, e3, e⟩ := ob_some e
    cases e
    refine ⟨G, ρ, sva, dx, _, R, e1, z1, fun x H1 G1 E1 R1 D1 => ?_⟩
    rcases meth_kind e3 with k1 | ⟨ds, rfl⟩
    · exact .inl ⟨list_ty R1.le (.inl D1) k1, G1, _, svb, dy, _, R1, e2, z2, fun y H2 G2 E2 R2 D2 => ⟨y, G2, dx, dy, dd, rfl, R2.le, .inl (D1.mono E2.sub), D2, e3, k1, fun v D => q v H2 G2 (E1.trans E2) R2 (.val D)⟩⟩
    · obtain ⟨p, xs, rfl, hT, r⟩ := tup_ty (.inl D1 : RdR G1 H1 x (.tuple ds))
      exact .inr ⟨⟨p, xs, rfl, hT.mono R1.le⟩, G1, _, svb, dy, _, R1, e2, z2, fun y H2 G2 E2 R2 D2 => ⟨y, G2, p, xs, ds, dy, dd, rfl, rfl, R2.le, hT.mono E2.sub, r.mono E2.sub, D2, e3, fun v D => q v H2 G2 (E1.trans E2) R2 (.val D)⟩⟩

/-! ### dicts -/
theorem slotF_at {G H : Hp} {σ : St} {ρ : Rho} {j : Nat} {kvs : List (List Int × D)} (R : Rel G H σ ρ) (h : slotF ρ j = some kvs) :
    ∃ a xs lk, σ[j]? = some (some (.ref a)) ∧ ρ[j]? = some (.dct lk kvs) ∧ Rd H a (DO a xs) ∧ KvR G xs kvs := by
  unfold slotF at h
  cases z : rd ρ j with
  | dct lk es =>
    rw [z] at h
    cases h
    have z2 := rd_get z (by intro z; cases z)
    obtain ⟨o, h1, h2⟩ := R.at z2
    cases h2 with
    | dct x1 x2 x3 => exact ⟨_, _, false, h1, z2, .inl x1, x3⟩
    | dcf x1 x2 => exact ⟨_, _, true, h1, z2, .inr ⟨_, R.le _ _ x1⟩, x2⟩
  | _ => rw [z] at h; cases h
theorem slotK_at {G H : Hp} {σ : St} {ρ : Rho} {j : Nat} {kvs : List (List Int × D)} (R : Rel G H σ ρ) (h : slotK ρ j = some kvs) :
    ∃ a xs sv, σ[j]? = some (some (.ref a)) ∧ ρ[j]? = some sv ∧ Rd H a (DO a xs) ∧ KvR G xs kvs := by
  unfold slotK at h
  cases z : rd ρ j with
  | dct lk es =>
    rw [z] at h
    cases h
    have z2 := rd_get z (by intro z; cases z)
    obtain ⟨o, h1, h2⟩ := R.at z2
    cases h2 with
    | dct x1 x2 x3 => exact ⟨_, _, _, h1, z2, .inl x1, x3⟩
    | dcf x1 x2 => exact ⟨_, _, _, h1, z2, .inr ⟨_, R.le _ _ x1⟩, x2⟩
  | rdc es =>
    rw [z] at h
    cases h
    have z2 := rd_get z (by intro z; cases z)
    obtain ⟨o, h1, h2⟩ := R.at z2
    cases h2 with
    | rdc x1 x2 x3 => exact ⟨_, _, _, h1, z2, .inl x1, x3⟩
  | _ => rw [z] at h; cases h
theorem slotV_at {G H : Hp} {σ : St} {ρ : Rho} {j : Nat} {q : Bool × List (List Int × D)} (R : Rel G H σ ρ) (h : slotV ρ j = some q) :
    ∃ a xs sv, σ[j]? = some (some (.ref a)) ∧ ρ[j]? = some sv ∧ hot sv = true ∧ (∀ b kvs, lnt sv = some b → lnt (mkV q.1 kvs) = some b) ∧ H a = some (DO a xs) ∧ G a = none ∧ KvR G xs q.2 := by
  unfold slotV at h
  cases z : rd ρ j with
  | dct lk es =>
    cases lk with
    | true => rw [z] at h; cases h
    | false =>
      rw [z] at h
      cases h
      have z2 := rd_get z (by intro z; cases z)
      obtain ⟨o, h1, h2⟩ := R.at z2
      cases h2 with
      | dct x1 x2 x3 => exact ⟨_, _, _, h1, z2, rfl, fun _ _ z => (by cases z), x1, x2, x3⟩
  | rdc es =>
    rw [z] at h
    cases h
    have z2 := rd_get z (by intro z; cases z)
    obtain ⟨o, h1, h2⟩ := R.at z2
    cases h2 with
    | rdc x1 x2 x3 => exact ⟨_, _, _, h1, z2, rfl, fun _ _ z => z, x1, x2, x3⟩
  | _ => rw [z] at h; cases h
theorem mkV_hot (b : Bool) (kvs : List (List Int × D)) : hot (mkV b kvs) = true := by cases b <;> rfl
theorem mkV_tied (b : Bool) (kvs : List (List Int × D)) : tied (mkV b kvs) = false := by cases b <;> rfl
theorem mkV_R {G H : Hp} {a : Addr} {xs : Ens} {b : Bool} {kvs : List (List Int × D)} (h : H a = some (DO a xs)) (g : G a = none) (r : KvR G xs kvs) : SlotR G H (some (.ref a)) (mkV b kvs) := by
  cases b
  · exact .dct h g r
  · exact .rdc h g r
theorem slotU_at {G H : Hp} {σ : St} {ρ : Rho} {j : Nat} {kvs : List (List Int × D)} (R : Rel G H σ ρ) (h : slotU ρ j = some kvs) :
    ∃ a xs, σ[j]? = some (some (.ref a)) ∧ ρ[j]? = some (.dct false kvs) ∧ H a = some (DO a xs) ∧ G a = none ∧ KvR G xs kvs := by
  unfold slotU at h
  cases z : rd ρ j with
  | dct lk es =>
    cases lk with
    | true => rw [z] at h; cases h
    | false =>
      rw [z] at h
      cases h
      have z2 := rd_get z (by intro z; cases z)
      obtain ⟨o, h1, h2⟩ := R.at z2
      cases h2 with
      | dct x1 x2 x3 => exact ⟨_, _, h1, z2, x1, x2, x3⟩
  | _ => rw [z] at h; cases h
/-- a dict that a name holds is never changed from now on -/
theorem Rel.frees {G H : Hp} {σ : St} {ρ : Rho} (r : Rel G H σ ρ) {j : Nat} {a : Addr} {xs : Ens} {kvs : List (List Int × D)} (h1 : σ[j]? = some (some (.ref a))) (h : ρ[j]? = some (.dct false kvs)) (hH : H a = some (DO a xs)) (hG : G a = none) (hK : KvR G xs kvs) (o : Obj) :
    Ext G H σ ρ (upd G a (.frz o (DO a xs))) (upd H a (.frz o (DO a xs))) σ (ρ.set j (.dct true kvs)) ∧ Rel (upd G a (.frz o (DO a xs))) (upd H a (.frz o (DO a xs))) σ (ρ.set j (.dct true kvs)) := by
  have s1 : Same G (upd G a (.frz o (DO a xs))) := same_upd hG
  have hotA : HotAt σ ρ a := ⟨j, _, h1, h, rfl⟩
  have other : ∀ b, HotAt σ (ρ.set j (.dct true kvs)) b → HotAt σ ρ b ∧ b ≠ a := fun b ⟨k, sv, k1, k2, k3⟩ => by
    rcases set_at k2 with ⟨rfl, rfl⟩ | ⟨hk, k2⟩
    · cases k3
    · refine ⟨⟨k, sv, k1, k2, k3⟩, fun z => hk ?_⟩
      subst z
      exact r.sep k j _ _ _ k1 k2 k3 h1 h rfl
  have ne_ : ∀ b, ¬ HotAt σ ρ b → b ≠ a := fun b n z => n (by rw [z]; exact hotA)
  refine ⟨⟨s1, fun b u q n => by rw [upd_ne (ne_ b n)]; exact q, fun b u q g n _ => by rw [upd_ne (ne_ b n)]; exact g, fun b q => ?_, fun b q => .inl (other b q).1, fun k b bb k1 k2 => ⟨k1, ?_⟩⟩, ⟨fun b u q => ?_, by rw [List.length_set]; exact r.len, fun k u sv k1 k2 => ?_, fun k l b sv sv' k1 k2 k3 l1 l2 l3 => ?_, (r.tie.mono s1).setR rfl⟩⟩
  · by_cases hb : b = a
    · subst hb; rw [upd_same] at q; cases q
    · rw [upd_ne hb] at q; exact q
  · have hk : j ≠ k := fun z => by subst z; rw [h] at k2; cases k2
    rw [List.getElem?_set_ne hk]; exact k2
  · by_cases hb : b = a
    · subst hb; rw [upd_same] at q ⊢; exact q
    · rw [upd_ne hb] at q ⊢; exact r.le b u q
  · rcases set_at k2 with ⟨rfl, rfl⟩ | ⟨hk, k2'⟩
    · rw [h1] at k1; cases k1; exact .dcf upd_same (hK.mono s1)
    · have q := r.slot k u sv k1 k2'
      have ap : ∀ b, HotAt σ (ρ.set j (.dct true kvs)) b → b ≠ a := fun b z => (other b z).2
      cases q with
      | un => exact .un _
      | val q => exact .val (q.mono s1)
      | own x1 x2 x3 => have n := ap _ ⟨k, _, k1, k2, rfl⟩; exact .own (by rw [upd_ne n]; exact x1) (by rw [upd_ne n]; exact x2) (x3.mono s1)
      | row x1 x2 x3 => have n := ap _ ⟨k, _, k1, k2, rfl⟩; exact .row (by rw [upd_ne n]; exact x1) (by rw [upd_ne n]; exact x2) (x3.mono s1)
      | dct x1 x2 x3 => have n := ap _ ⟨k, _, k1, k2, rfl⟩; exact .dct (by rw [upd_ne n]; exact x1) (by rw [upd_ne n]; exact x2) (x3.mono s1)
      | rdc x1 x2 x3 => have n := ap _ ⟨k, _, k1, k2, rfl⟩; exact .rdc (by rw [upd_ne n]; exact x1) (by rw [upd_ne n]; exact x2) (x3.mono s1)
      | obj x1 x2 x3 => have n := ap _ ⟨k, _, k1, k2, rfl⟩; exact .obj (by rw [upd_ne n]; exact x1) (by rw [upd_ne n]; exact x2) (x3.mono s1)
      | dcf x1 x2 => exact .dcf (s1 _ _ x1) (x2.mono s1)
      | dk x1 x2 x3 => have n := ap _ ⟨k, _, k1, k2, rfl⟩; exact .dk (by rw [upd_ne n]; exact x1) (by rw [upd_ne n]; exact x2) (x3.mono s1)
      | gho x1 x2 x3 => have n := ap _ ⟨k, _, k1, k2, rfl⟩; exact .gho (by rw [upd_ne n]; exact x1) (by rw [upd_ne n]; exact x2) (x3.mono s1)
      | oll _ _ _ => exact .oll _ _ _
  · rcases set_at k2 with ⟨_, rfl⟩ | ⟨_, k2⟩
    · cases k3
    · rcases set_at l2 with ⟨_, rfl⟩ | ⟨_, l2⟩
      · cases l3
      · exact r.sep k l b sv sv' k1 k2 k3 l1 l2 l3
theorem kvr_get {G : Hp} : ∀ {xs : Ens} {kvs : List (List Int × D)} {j : Nat} {p : List Int × Addr × Value}, KvR G xs kvs → xs[j]? = some p → ∃ d, kvs[j]? = some (p.1, d) ∧ TF G p.2.1 (p.1.map V.int)
  | _, _, _, _, .nil, e => by simp at e
  | _, _, 0, _, .cons k t _ _ _, e => by simp at e; subst e; exact ⟨_, rfl, t⟩
  | _, _, j + 1, _, .cons _ _ _ _ r, e => by
    obtain ⟨d, h1, h2⟩ := kvr_get (j := j) r (by simpa using e)
    exact ⟨d, by simpa using h1, h2⟩
theorem s_skeys {k : Nat} {j : Nat} {p ap cp : Pos} (hr : Room k X.A) (hc : X.calm = true) (hg : Gl X (Str.ofString "sorted")) (hm : X.mg (Str.ofString "sorted") = none) (hbase : attributeBase d0 (Str.ofString "keys") X.env (eval d0 X.env) = eval d0 X.env) (hl : (ap.endLine == cp.line) = true) (hv : PE X d0 (tVar j)) :
    PE X (.Call (.Name (Str.ofString "sorted") p) [.Call (.Attribute d0 (Str.ofString "keys") ap) [] [] cp] [] pos) (tE c (.dx .skeys j a b)) :=
  PE.le (pe_callB (cr_sortV hc (by have := hr.un; omega)) hg hm (by decide +kernel) (a_one rfl (pe_dkeysX hv hbase hl)) (by decide +kernel) (by decide +kernel) rfl rfl) fun σ H Q ⟨G, ρ, sv, ρ', R, e, q⟩ => by
    unfold ev at e
    obtain ⟨kvs, e0, e⟩ := ob_some e
    obtain ⟨hz, e⟩ := ite_some e
    cases e
    obtain ⟨a, xs, h0, h2, r0, g0, h4⟩ := slotU_at R e0
    refine ⟨.ref a, h0, a, xs, rfl, rfl, r0, fun p np => ?_⟩
    have hpa : a ≠ p := ne_of_none r0 np
    have sP : Same H (upd H p (viewO p a)) := same_upd np
    refine ⟨p, a, xs, G, kvs, rfl, upd_same, by rw [upd_ne hpa]; exact r0, R.le.trans sP, h4, hz, fun v H' N => ?_⟩
    obtain ⟨G', s1, s2, s3, f, V1⟩ := N
    have N2 : SvN G H v (.own (srtD (keysD kvs))) H' := by
      refine ⟨G', s1, s2, sP.trans s3, fun b u hb g t => f b u (sP b u hb) g t, ?_⟩
      obtain ⟨a2, ys, e1, n1, n2, n3, n4⟩ := V1
      exact ⟨a2, ys, e1, sP.free n1, n2, n3, n4⟩
    obtain ⟨G3, E3, R3, S3⟩ := fin_new R N2
    exact q v H' G3 E3 R3 S3
theorem key_at {G : Hp} {y : V} {dy : D} {k : List Int} (h : Dr G y dy) (e : keyD dy = some k) : ∃ b, y = .ref b ∧ TF G b (k.map V.int) := by
  cases h with
  | tup ha ra =>
    have e : intsD _ = some k := e
    obtain ⟨rfl, rfl⟩ := Drs.ints_of ra e
    exact ⟨_, rfl, ha⟩
  | _ => cases e
theorem s_dnew : PE X (.Dict [] [] pos) (tE c (.dx .new j a b)) := PE.le pe_dnewX fun σ H Q ⟨G, ρ, sv, ρ', R, e, q⟩ => by
  unfold ev at e
  cases e
  intro p np
  have N : SvN G H (.ref p) (.dct false []) (upd H p (DO p [])) := ⟨G, Same.refl _, R.le.trans (same_upd np), same_upd np, fun _ _ _ g _ => g, p, [], rfl, np, R.le.free np, upd_same, .nil⟩
  obtain ⟨G3, E3, R3, S3⟩ := fin_new R N
  exact q _ _ G3 E3 R3 S3
theorem s_dc0 : PE X (.Dict [] [] pos) (tE c .dc0) := PE.le pe_dnewT fun σ H Q ⟨G, ρ, sv, ρ', R, e, q⟩ => by
  unfold ev at e
  cases e
  intro p np
  obtain ⟨G3, E3, R3, S3⟩ := fin_new R (svn_dc0 R.le np)
  exact q _ _ G3 E3 R3 S3
theorem din_rd {j : Nat} {σ : St} {H : Hp} {Q : VK} (h : tE c (.dx .isin j a b) σ H Q) : tDinX id (tD c a) (tVar j) σ H Q := by
    obtain ⟨G, ρ, sv, ρ', R, e, q⟩ := h
    unfold ev at e
    obtain ⟨sva, ρ1, dx, e1, z1, e⟩ := bz_some e
    obtain ⟨k, e2, e⟩ := ob_some e
    obtain ⟨kvs, e3, e⟩ := ob_some e
    cases e
    refine ⟨G, ρ, sva, dx, _, R, e1, z1, fun x H1 G1 E1 R1 D1 => ?_⟩
    obtain ⟨a, xs, lk, h1, h2, h3, h4⟩ := slotK_at R1 e3
    obtain ⟨b, rfl, hb⟩ := key_at D1 e2
    exact ⟨.ref a, h1, a, b, kvs, k, xs, G1, rfl, rfl, ⟨h3, R1.le, h4, hb⟩, q _ H1 G1 E1 R1 (.val (.bl _))⟩
theorem s_din {k : Nat} {j : Nat} {x : Str} {p : Pos} (hr : Room k X.A) (ha : PE X a0 (tE c a)) (hv : PE X (.Name x p) (tVar j)) : PE X (.Compare a0 [.In] [.Name x p] pos) (tE c (.dx .isin j a b)) :=
  PE.le (pe_cmp (pc_dinX (by have := hr.un; omega) (sD ha) hv)) fun σ H Q h => din_rd h
theorem t_din {k : Nat} {j : Nat} {x : Str} {p : Pos} (hr : Room k X.A) (ha : PE X a0 (tE c a)) (hv : PE X (.Name x p) (tVar j)) : PT X (.Compare a0 [.In] [.Name x p] pos) (tT c (.dx .isin j a b)) :=
  PT.le (pt_cmp (pc_dinX (by have := hr.un; omega) (sD ha) hv)) fun σ H Q h => din_rd (tT_tE h)
theorem dnin_rd {j : Nat} {σ : St} {H : Hp} {Q : VK} (h : tE c (.dx .nin j a b) σ H Q) : tDinX not (tD c a) (tVar j) σ H Q := by
    obtain ⟨G, ρ, sv, ρ', R, e, q⟩ := h
    unfold ev at e
    obtain ⟨sva, ρ1, dx, e1, z1, e⟩ := bz_some e
    obtain ⟨k, e2, e⟩ := ob_some e
    obtain ⟨kvs, e3, e⟩ := ob_some e
    cases e
    refine ⟨G, ρ, sva, dx, _, R, e1, z1, fun x H1 G1 E1 R1 D1 => ?_⟩
    obtain ⟨a, xs, lk, h1, h2, h3, h4⟩ := slotK_at R1 e3
    obtain ⟨b, rfl, hb⟩ := key_at D1 e2
    exact ⟨.ref a, h1, a, b, kvs, k, xs, G1, rfl, rfl, ⟨h3, R1.le, h4, hb⟩, q _ H1 G1 E1 R1 (.val (.bl _))⟩
theorem s_dnin {k : Nat} {j : Nat} {x : Str} {p : Pos} (hr : Room k X.A) (ha : PE X a0 (tE c a)) (hv : PE X (.Name x p) (tVar j)) : PE X (.Compare a0 [.NotIn] [.Name x p] pos) (tE c (.dx .nin j a b)) :=
  PE.le (pe_cmp (pc_dninX (by have := hr.un; omega) (sD ha) hv)) fun σ H Q h => dnin_rd h
theorem t_dnin {k : Nat} {j : Nat} {x : Str} {p : Pos} (hr : Room k X.A) (ha : PE X a0 (tE c a)) (hv : PE X (.Name x p) (tVar j)) : PT X (.Compare a0 [.NotIn] [.Name x p] pos) (tT c (.dx .nin j a b)) :=
  PT.le (pt_cmp (pc_dninX (by have := hr.un; omega) (sD ha) hv)) fun σ H Q h => dnin_rd (tT_tE h)
theorem s_dget {k : Nat} {j : Nat} (hr : Room k X.A) (hs : NoSl a0) (ha : PE X a0 (tE c a)) (hv : PE X d0 (tVar j)) : PE X (.Subscript d0 a0 pos) (tE c (.dx .get j a b)) :=
  PE.le (pe_dgetX (by have := hr.un; omega) hv (sD ha) hs) fun σ H Q ⟨G, ρ, sv, ρ', R, e, q⟩ => by
    unfold ev at e
    obtain ⟨kv0, e0, e⟩ := ob_some e
    obtain ⟨sva, ρ1, dx, e1, z1, e⟩ := bz_some e
    obtain ⟨k, e2, e⟩ := ob_some e
    obtain ⟨kvs, e3, e⟩ := ob_some e
    obtain ⟨d, e4, e⟩ := ob_some e
    cases e
    obtain ⟨a, _, _, h0, _⟩ := slotK_at R e0
    refine ⟨.ref a, h0, G, ρ, sva, dx, _, R, e1, z1, fun x H1 G1 E1 R1 D1 => ?_⟩
    obtain ⟨a', xs, lk, h1, h2, h3, h4⟩ := slotK_at R1 e3
    rw [h0] at h1
    cases h1
    obtain ⟨b, rfl, hb⟩ := key_at D1 e2
    exact ⟨a, b, kvs, k, xs, G1, d, rfl, rfl, ⟨h3, R1.le, h4, hb⟩, e4, fun v hv => q _ H1 G1 E1 R1 (.val hv)⟩
theorem s_dgetd {k : Nat} {j : Nat} {ap : Pos} (hr : Room k X.A) (m : M2 X d0 "get" ap a0 b0 pos) (ha : PE X a0 (tE c a)) (hb : PE X b0 (tE c b)) (hv : PE X d0 (tVar j)) : PE X (.Call (.Attribute d0 "get" ap) [a0, b0] [] pos) (tE c (.dx .getd j a b)) :=
  PE.le (pe_dget2X (by have := hr.un; omega) hv (sD ha) (sD hb) m) fun σ H Q ⟨G, ρ, sv, ρ', R, e, q⟩ => by
    unfold ev at e
    obtain ⟨kv0, e0, e⟩ := ob_some e
    obtain ⟨sva, ρ1, dx, e1, z1, e⟩ := bz_some e
    obtain ⟨svb, ρ2, dy, e2, z2, e⟩ := bz_some e
    obtain ⟨k, e3, e⟩ := ob_some e
    obtain ⟨kvs, e4, e⟩ := ob_some e
    cases e
    obtain ⟨a, xs0, _, h0, _, r0, _⟩ := slotK_at R e0
    refine ⟨.ref a, h0, a, xs0, rfl, r0, G, ρ, sva, dx, _, R, e1, z1, fun x H1 G1 E1 R1 D1 => ⟨G1, _, svb, dy, _, R1, e2, z2, fun y H2 G2 E2 R2 D2 => ?_⟩⟩
    obtain ⟨a', xs, lk, h1, h2, h3, h4⟩ := slotK_at R2 e4
    rw [h0] at h1
    cases h1
    obtain ⟨b, rfl, hb⟩ := key_at (D1.mono E2.sub) e3
    exact ⟨b, kvs, k, xs, G2, dy, rfl, ⟨h3, R2.le, h4, hb⟩, D2, fun v hv => q _ H2 G2 (E1.trans E2) R2 (.val hv)⟩
theorem s_dlen {j : Nat} {p : Pos} (hg : Gl X (Str.ofString "len")) (hm : X.mg (Str.ofString "len") = none) (hs : starEach [d0] X.env = (false, eval d0 X.env) :: starEach [] X.env) (hv : PE X d0 (tVar j)) : PE X (.Call (.Name (Str.ofString "len") p) [d0] [] pos) (tE c (.dx .len j a b)) :=
  PE.le (pe_callB call_lenX hg hm (by decide +kernel) (a_one hs hv) (by decide +kernel) (by decide +kernel) hs rfl) fun σ H Q ⟨G, ρ, sv, ρ', R, e, q⟩ => by
    unfold ev at e
    obtain ⟨kvs, e0, e⟩ := ob_some e
    cases e
    obtain ⟨a, xs, h0, _, r0, _, h4⟩ := slotU_at R e0
    exact ⟨.ref a, h0, a, kvs, xs, G, rfl, .inl r0, R.le, h4, q _ H G Ext.refl R (.val (.int _))⟩

/-! ### {k: v}, sum(f(..).values()), f(..).keys(), len(set(..)) -/
theorem Ext.upd_fresh {G H G2 H2 : Hp} {σ σ2 : St} {ρ ρ2 : Rho} {p : Addr} {o : HO} (E : Ext G H σ ρ G2 H2 σ2 ρ2) (hp : H p = none) : Ext G H σ ρ G2 (upd H2 p o) σ2 ρ2 where
  sub := E.sub
  keep := fun a u h n => by rw [upd_ne (ne_of_none h hp)]; exact E.keep a u h n
  cold := E.cold
  dom := fun a h => by
    by_cases c : a = p
    · rw [c]; exact hp
    · rw [upd_ne c] at h; exact E.dom a h
  old := E.old
  row := E.row
theorem Rel.upd_cold {G H : Hp} {σ : St} {ρ : Rho} {p : Addr} {o : HO} (R : Rel G H σ ρ) (g : G p = none) (n : ¬ HotAt σ ρ p) : Rel G (upd H p o) σ ρ :=
  R.grow (Same.refl _) (fun b u h => by rw [upd_ne (ne_of_none h g)]; exact R.le b u h) fun b u z h => ⟨by rw [upd_ne (fun e => n (by rw [← e]; exact z))]; exact h, R.hotG z⟩
theorem s_d1 {k : Nat} (hr : Room k X.A) (ha : PE X a0 (tE c a)) (hb : PE X b0 (tE c b)) : PE X (.Dict [some a0] [b0] pos) (tE c (.d1 a b)) :=
  PE.le (pe_d1X (by have := hr.un; omega) (sD ha) (sD hb)) fun σ H Q ⟨G, ρ, sv, ρ', R, e, q⟩ => by
    unfold ev at e
    obtain ⟨sva, ρ1, y, e1, z1, e⟩ := bz_some e
    obtain ⟨svb, ρ2, d, e2, z2, e⟩ := bz_some e
    obtain ⟨ks, e3, e⟩ := ob_some e
    cases e
    intro p hp
    have gp := R.le.free hp
    have np := (R.new hp).1
    have R0 : Rel G (upd H p (DO p [])) σ ρ := R.upd_cold gp np
    have E0 : Ext G H σ ρ G (upd H p (DO p [])) σ ρ := Ext.refl.upd_fresh hp
    refine ⟨G, ρ, sva, y, ρ1, R0, e1, z1, fun x H1 G1 E1 R1 D1 => ⟨G1, ρ1, svb, d, _, R1, e2, z2, fun v H2 G2 E2 R2 D2 => ?_⟩⟩
    obtain ⟨b, rfl, hb⟩ := key_at D1 e3
    have E12 := E1.trans E2
    have h2 := E12.keep p _ upd_same np
    have g2 := E12.cold p _ upd_same gp np nt_dT
    have n2 : ¬ HotAt σ _ p := E12.cool upd_same np
    refine ⟨b, ks, d, G2, rfl, h2, R2.le, hb.mono E2.sub, D2, fun ys hk => ?_⟩
    exact q _ _ G2 ((E0.trans E12).upd_fresh hp) (R2.upd_cold g2 n2) (.dct upd_same g2 hk hp n2)
theorem s_vsum {p ap cp : Pos} (hc : X.calm = true) (hg : Gl X (Str.ofString "sum")) (hm : X.mg (Str.ofString "sum") = none) (hbase : attributeBase a0 (Str.ofString "values") X.env (eval a0 X.env) = eval a0 X.env) (hl : (ap.endLine == cp.line) = true) (ha : PE X a0 (tE c a)) :
    PE X (.Call (.Name (Str.ofString "sum") p) [.Call (.Attribute a0 (Str.ofString "values") ap) [] [] cp] [] pos) (tE c (.vsum a)) :=
  PE.le (pe_vsumX hc hg hm ha hbase hl) fun σ H Q ⟨G, ρ, sv, ρ', R, e, q⟩ => by
    unfold ev at e
    cases e1 : ev c a ρ with
    | none => rw [e1] at e; cases e
    | some pr =>
      obtain ⟨sva, ρ1⟩ := pr
      rw [e1] at e
      have hd : ∃ kvs, sva = .dct false kvs := by
        cases sva with
        | dct lk kvs => cases lk with
          | false => exact ⟨_, rfl⟩
          | true => cases e
        | _ => cases e
      obtain ⟨kvs, rfl⟩ := hd
      obtain ⟨n, e2, e⟩ := ob_some (show (ob (sumK kvs) fun n => some (SV.val (.int n), ρ1)) = some (sv, ρ') from e)
      cases e
      refine ⟨G, ρ, _, _, R, e1, fun v H1 G1 E1 R1 S1 => ?_⟩
      cases S1 with
      | @dct a xs _ hH hG hK h0 hn =>
        refine ⟨a, xs, G1, kvs, n, rfl, hH, R1.le, hK, e2, fun r o hr => ?_⟩
        exact q _ _ G1 (E1.upd_fresh (E1.dom r hr)) (R1.upd_cold (R1.le.free hr) (R1.new hr).1) (.val (.int _))
theorem keys_ref {G : Hp} : ∀ {ds : List D} {xs : List V} {ks : List (List Int)}, Drs G xs ds → keysOf ds = some ks → ∃ L : List (Addr × List Int), xs = L.map (fun p => V.ref p.1) ∧ ks = L.map (·.2) ∧ ∀ p ∈ L, TF G p.1 (p.2.map V.int)
  | _, _, _, .nil, e => by cases e; exact ⟨[], rfl, rfl, fun _ h => nomatch h⟩
  | d :: ds, _, ks, .cons h r, e => by
    have e : (match keyD d, keysOf ds with | some k, some ks => some (k :: ks) | _, _ => none) = some ks := e
    cases e1 : keyD d with
    | none => rw [e1] at e; cases e
    | some k =>
      cases e2 : keysOf ds with
      | none => rw [e1, e2] at e; cases e
      | some kr =>
        rw [e1, e2] at e
        cases e
        obtain ⟨b, rfl, hb⟩ := key_at h e1
        obtain ⟨L, rfl, rfl, hL⟩ := keys_ref r e2
        refine ⟨(b, k) :: L, rfl, rfl, fun p hp => ?_⟩
        rcases List.mem_cons.mp hp with rfl | hp
        · exact hb
        · exact hL p hp
theorem s_lset {k : Nat} {p p2 q2 : Pos} (hr : Room k X.A) (hc : X.calm = true) (hg : Gl X (Str.ofString "len")) (hm : X.mg (Str.ofString "len") = none) (hg2 : Gl X (Str.ofString "set")) (hm2 : X.mg (Str.ofString "set") = none)
    (hs : starEach [a0] X.env = (false, eval a0 X.env) :: starEach [] X.env) (hv : ∀ j, a = .var j → PE X a0 (tVar j)) (ha : PE X a0 (tE c a)) :
    PE X (.Call (.Name (Str.ofString "len") p) [.Call (.Name (Str.ofString "set") p2) [a0] [] q2] [] pos) (tE c (.lset a)) :=
  PE.le (pe_lsetI hc hg hm hg2 hm2 (sR hv ha) hs (by have := hr.un; omega)) fun σ H Q ⟨G, ρ, sv, ρ', R, e, q⟩ => by
    unfold ev at e
    obtain ⟨x, ρ1, e1, e⟩ := bd_some e
    obtain ⟨n, e2, e⟩ := ob_some e
    cases e
    refine ⟨G, ρ, x, _, R, e1, fun v H1 G1 E1 R1 D1 => ?_⟩
    unfold lsetD at e2
    obtain ⟨ds, e3, e4⟩ := ob_some e2
    cases e5 : intsD ds with
    | some ns =>
      rw [e5] at e4
      obtain ⟨a, rfl, hS⟩ := ints_items (K := X.K) R1.le D1 e3 e5
      by_cases hz : ns.length ≤ 4000
      · have e4 : (if ns.length ≤ 4000 then some (dst ns).length else none) = some n := e4
        rw [if_pos hz] at e4
        cases e4
        exact ⟨a, rfl, .inl ⟨ns, hS, hz, q _ H1 G1 E1 R1 (.val (.int _))⟩⟩
      · have e4 : (if ns.length ≤ 4000 then some (dst ns).length else none) = some n := e4
        rw [if_neg hz] at e4
        cases e4
    | none =>
      rw [e5] at e4
      have hx : ∃ es, x = .list es := by cases x <;> first | exact ⟨_, rfl⟩ | cases e4
      obtain ⟨es, rfl⟩ := hx
      cases e3
      obtain ⟨ks, e6, e7⟩ := ob_some (show (ob (keysOf ds) fun ks => if ks.length < 64 then some (dst ks).length else none) = some n from e4)
      by_cases hz : ks.length < 64
      · rw [if_pos hz] at e7
        cases e7
        have fin : ∀ (b : Addr) (xs : List V), v = .ref b → SqL X.K H1 b xs → Drs G1 xs ds → ∃ (l : Addr), v = V.ref l ∧ ((∃ ns : List Int, (SqL X.K H1 l (ns.map V.int) ∨ SqT X.K H1 l (ns.map V.int)) ∧ ns.length ≤ 4000 ∧ Q (.int ((dst ns).length : Nat)) H1) ∨
              ∃ ks : List (Addr × List Int), SqL X.K H1 l (ks.map fun p => V.ref p.1) ∧ (∀ p ∈ ks, TF H1 p.1 (p.2.map V.int)) ∧ ks.length < 64 ∧ ∀ r o, H1 r = none → Q (.int ((dst (ks.map (·.2))).length : Nat)) (upd H1 r o)) := fun b xs hv hS r => by
          obtain ⟨L, e8, e9, hL⟩ := keys_ref r e6
          subst e8 e9
          exact ⟨b, hv, .inr ⟨L, hS, fun p hp => (hL p hp).mono R1.le, by simpa using hz, fun r o hr => q _ _ G1 (E1.upd_fresh (E1.dom r hr)) (R1.upd_cold (R1.le.free hr) (R1.new hr).1) (.val (.int _))⟩⟩
        rcases D1 with D1 | ⟨b, xs, es2, rfl, h1, h2, h3⟩
        · cases D1 with
          | lst h1 h2 => exact fin _ _ rfl (SqL.of (R1.le _ _ h1)) h2
        · cases h3; exact fin b xs rfl (SqL.of h1) h2
      · rw [if_neg hz] at e7
        cases e7

theorem newPs_ok {σ : L2.St} {ρ : Rho} : ∀ {xs : List V} {ds : List D} (k : Nat) {G H : Hp}, Rel G H σ ρ → Drs G xs ds → ∀ {Q : List V → Hp → Prop}, (∀ ps H' G', Ext G H σ ρ G' H' σ ρ → Rel G' H' σ ρ → Drs G' ps (tenD k ds) → Q ps H') → NewPs xs k H Q
  | _, _, k, G, H, R, .nil, Q, h => h [] H G Ext.refl R .nil
  | _, _, k, G, H, R, .cons dx r, Q, h => fun p o np hd => by
    obtain ⟨G2, E2, R2, S2⟩ := fin_new R (svn_tup R.le (.cons (.int (k : Nat)) (.cons dx .nil)) np hd)
    refine newPs_ok (k + 1) R2 (r.mono E2.sub) fun ps H3 G3 E3 R3 D3 => h _ H3 G3 (E2.trans E3) R3 (.cons ?_ D3)
    cases S2 with
    | val d => exact d.mono E3.sub
theorem s_ten {p p2 q2 : Pos} (hc : X.calm = true) (hg : Gl X (Str.ofString "tuple")) (hm : X.mg (Str.ofString "tuple") = none) (hg2 : Gl X (Str.ofString "enumerate")) (hm2 : X.mg (Str.ofString "enumerate") = none)
    (hs : starEach [a0] X.env = (false, eval a0 X.env) :: starEach [] X.env) (hv : ∀ j, a = .var j → PE X a0 (tVar j)) (ha : PE X a0 (tE c a)) :
    PE X (.Call (.Name (Str.ofString "tuple") p) [.Call (.Name (Str.ofString "enumerate") p2) [a0] [] q2] [] pos) (tE c (.ten a)) :=
  PE.le (pe_ten hc hg hm hg2 hm2 (sR hv ha) hs) fun σ H Q ⟨G, ρ, sv, ρ', R, e, q⟩ => by
    unfold ev at e
    obtain ⟨x, ρ1, e1, e⟩ := bd_some e
    obtain ⟨ds, e2, e⟩ := ob_some e
    obtain ⟨hz, e⟩ := ite_some e
    cases e
    have hx : x = .list ds := by
      cases x <;> first | (cases e2; rfl) | cases e2
    subst hx
    refine ⟨G, ρ, .list ds, _, R, e1, fun v H1 G1 E1 R1 D1 => ?_⟩
    have fin : ∀ (b : Addr) (xs : List V), v = .ref b → SqL X.K H1 b xs → Drs G1 xs ds → ∃ (l : Addr) (xs : List V), v = V.ref l ∧ SqL X.K H1 l xs ∧ NewPs xs 0 H1 fun ps H2 => NewT H2 ps Q := fun b xs hv hS r =>
      ⟨b, xs, hv, hS, newPs_ok 0 R1 r fun ps H2 G2 E2 R2 D2 p o np hd => by
        obtain ⟨G3, E3, R3, S3⟩ := fin_new R2 (svn_tup R2.le D2 np hd)
        exact q _ _ G3 ((E1.trans E2).trans E3) R3 (S3.older (E1.trans E2).dom)⟩
    rcases D1 with D1 | ⟨b, xs, es2, rfl, h1, h2, h3⟩
    · cases D1 with
      | lst h1 h2 => exact fin _ _ rfl (SqL.of (R1.le _ _ h1)) h2
    · cases h3; exact fin b xs rfl (SqL.of h1) h2

theorem sst_one {us ns : List Int} (h1 : us.Pairwise (· < ·)) (h2 : ∀ k, k ∈ us ↔ k ∈ ns) : us = sortI (dst ns) := by
  obtain ⟨d1, d2⟩ := dst_nodup ns
  exact sortI_one ((List.perm_ext_iff_of_nodup (h1.imp fun h e => by omega) d1).mpr fun x => by rw [h2, d2]) (h1.imp fun h => Int.le_of_lt h)
theorem s_sst {p p2 q2 : Pos} (hc : X.calm = true) (hg : Gl X (Str.ofString "sorted")) (hm : X.mg (Str.ofString "sorted") = none) (hg2 : Gl X (Str.ofString "set")) (hm2 : X.mg (Str.ofString "set") = none)
    (hs : starEach [a0] X.env = (false, eval a0 X.env) :: starEach [] X.env) (hv : ∀ j, a = .var j → PE X a0 (tVar j)) (ha : PE X a0 (tE c a)) :
    PE X (.Call (.Name (Str.ofString "sorted") p) [.Call (.Name (Str.ofString "set") p2) [a0] [] q2] [] pos) (tE c (.sst a)) :=
  PE.le (pe_sst hc hg hm hg2 hm2 (sR hv ha) hs) fun σ H Q ⟨G, ρ, sv, ρ', R, e, q⟩ => by
    unfold ev at e
    obtain ⟨x, ρ1, e1, e⟩ := bd_some e
    obtain ⟨us, e2, e⟩ := ob_some e
    cases e
    obtain ⟨ds, hx⟩ : ∃ ds, x = .list ds := by
      cases x <;> first | exact ⟨_, rfl⟩ | cases e2
    subst hx
    obtain ⟨ns, e3, e4⟩ := ob_some (show (ob (intsD ds) fun (ns : List Int) => if ns.length ≤ 4000 ∧ (dst ns).length < 64 then some (sortI (dst ns)) else none) = some us from e2)
    by_cases hz : ns.length ≤ 4000 ∧ (dst ns).length < 64
    · rw [if_pos hz] at e4
      cases e4
      refine ⟨G, ρ, .list ds, _, R, e1, fun v H1 G1 E1 R1 D1 => ?_⟩
      have fin : ∀ (b : Addr) (xs : List V), v = .ref b → SqL X.K H1 b xs → Drs G1 xs ds → ∃ (l : Addr) (ns : List Int), v = V.ref l ∧ SqL X.K H1 l (ns.map V.int) ∧ ns.length ≤ 4000 ∧ (dst ns).length < 64 ∧
          ∀ r o, H1 r = none → ∀ (us : List Int) (p : Addr), us.Pairwise (· < ·) → (∀ k, k ∈ us ↔ k ∈ ns) → upd H1 r o p = none → Q (.ref p) (upd (upd H1 r o) p (.lst (us.map V.int))) := fun b xs hv hS r => by
        obtain ⟨e5, _⟩ := r.ints_of e3
        subst e5
        refine ⟨b, ns, hv, hS, hz.1, hz.2, fun a o hr us p hp hk hn => ?_⟩
        have eu := sst_one hp hk
        subst eu
        have E2 := E1.upd_fresh (o := o) (E1.dom a hr)
        have R2 := R1.upd_cold (o := o) (R1.le.free hr) (R1.new hr).1
        obtain ⟨G3, E3, R3, S3⟩ := fin_new R2 (svn_lst R2.le (Drs.ints _) hn)
        exact q _ _ G3 (E2.trans E3) R3 (S3.older E2.dom)
      rcases D1 with D1 | ⟨b, xs, es2, rfl, h1, h2, h3⟩
      · cases D1 with
        | lst h1 h2 => exact fin _ _ rfl (SqL.of (R1.le _ _ h1)) h2
      · cases h3; exact fin b xs rfl (SqL.of h1) h2
    · rw [if_neg hz] at e4
      cases e4

/-! ### calls of defs -/
/-- what a def that changes the list at a gives -/
def SvIo (G H : Hp) (a : Addr) (v : V) (sv : SV) (es : List D) (H' : Hp) : Prop := ∃ G' xs', Same G G' ∧ Same G' H' ∧ (∀ b o, b ≠ a → H b = some o → H' b = some o) ∧ (∀ b o, b ≠ a → H b = some o → G b = none → NT o → G' b = none) ∧
  G' a = none ∧ H' a = some (.lst xs') ∧ Drs G' xs' es ∧ SvV G H G' H' v sv
/-- what a def that changes the dict at a gives -/
def SvId (G H : Hp) (a : Addr) (v : V) (sv : SV) (kvs : List (List Int × D)) (H' : Hp) : Prop := ∃ G' xs', Same G G' ∧ Same G' H' ∧ (∀ b o, b ≠ a → H b = some o → H' b = some o) ∧ (∀ b o, b ≠ a → H b = some o → G b = none → NT o → G' b = none) ∧
  G' a = none ∧ H' a = some (DO a xs') ∧ KvR G' xs' kvs ∧ SvV G H G' H' v sv
/-- what a method that changes the instance at a gives -/
def SvIoO (G H : Hp) (a : Addr) (v : V) (sv : SV) (fs : List (Str × D)) (H' : Hp) : Prop := ∃ G' dx us, Same G G' ∧ Same G' H' ∧ (∀ b o, b ≠ a → H b = some o → H' b = some o) ∧ (∀ b o, b ≠ a → H b = some o → G b = none → NT o → G' b = none) ∧
  G' a = none ∧ H' a = some (.ins CA.a dx us) ∧ FsR G' us fs ∧ SvV G H G' H' v sv
def spF (c : FT) (f : Nat) : Bool → Sp
  | false => fun vs H Q _ => ∃ G ds sv r, Same G H ∧ Drs G vs ds ∧ c f none ds = some (sv, r) ∧ ∀ v H', SvN G H v sv H' → Q v H'
  | true => fun vs H Q _ => (isDl f = false ∧ ∃ G a xs row ws ds sv es, vs = .ref a :: ws ∧ Same G H ∧ H a = some (.lst xs) ∧ G a = none ∧ Drs G xs row ∧ Drs G ws ds ∧ c f (some row) ds = some (sv, es) ∧ ∀ v H', SvIo G H a v sv es H' → Q v H') ∨
    (isDl f = true ∧ isOb f = false ∧ ∃ G a xs kvs ws ds sv es kvs', vs = ws ++ [.ref a] ∧ Same G H ∧ H a = some (DO a xs) ∧ G a = none ∧ KvR G xs kvs ∧ Drs G ws ds ∧ c f (some (encK kvs)) ds = some (sv, es) ∧ decK es = some kvs' ∧ ∀ v H', SvId G H a v sv kvs' H' → Q v H') ∨
    (isOb f = true ∧ ∃ G a dx us fs ws ds sv es fs', vs = .ref a :: ws ∧ Same G H ∧ H a = some (.ins CA.a dx us) ∧ G a = none ∧ FsR G us fs ∧ Drs G ws ds ∧ c f (some (encO fs)) ds = some (sv, es) ∧ decO es = some fs' ∧ ∀ v H', SvIoO G H a v sv fs' H' → Q v H')
theorem call_rd {f : Nat} {σ : St} {H : Hp} {Q : VK} (h : tE c (.call f es) σ H Q) : tCall (spF c f false) [] E0 (tA c es) σ H Q := by
  obtain ⟨G, ρ, sv, ρ', R, e, q⟩ := h
  unfold ev at e
  obtain ⟨ds, ρ1, e1, e⟩ := bd_some e
  obtain ⟨p, e2, e⟩ := ob_some e
  obtain ⟨sv2, r⟩ := p
  cases e
  refine ⟨G, ρ, ds, _, R, e1, fun vs H1 G1 E1 R1 D1 => ?_⟩
  show spF c f false (vs ++ []) H1 Q E0
  rw [List.append_nil]
  refine ⟨G1, ds, sv2, r, R1.le, D1, e2, fun v H2 N => ?_⟩
  obtain ⟨G3, E3, R3, S3⟩ := fin_new R1 N
  exact q v H2 G3 (E1.trans E3) R3 (S3.older E1.dom)
theorem s_call {f k : Nat} {fa : Addr} {fd : FuncData} {ps : List Str} {x : Str} {p : Pos} {es0 : List Expr} (F : FnOk X.prog X.w X.K X.mg X.base CX0 k fa fd ps (spF c f false)) (hr : Room k X.A) (hg : Gl X x) (hm : X.mg x = some (.ref fa))
    (hk : PySem.W.keepIn X.K (.ref fa) = true) (hb : Binds X.K fd ps []) (ha : PA X (a0 :: es0) (tA c es)) (hdb : (x == ("__debug__" : Str)) = false) (he : starEach (a0 :: es0) X.env = (false, eval a0 X.env) :: starEach es0 X.env)
    (hpl : (backTo pos (starEach es0 X.env)).any (·.1) = false) : PE X (.Call (.Name x p) (a0 :: es0) [] pos) (tE c (.call f es)) :=
  PE.le (pe_call F hr hg hm hk hb .nil pass0 ha hdb he hpl) fun σ H Q h => call_rd h
theorem s_call0 {f k : Nat} {fa : Addr} {fd : FuncData} {ps : List Str} {x : Str} {p : Pos} (F : FnOk X.prog X.w X.K X.mg X.base CX0 k fa fd ps (spF c f false)) (hr : Room k X.A) (hg : Gl X x) (hm : X.mg x = some (.ref fa))
    (hk : PySem.W.keepIn X.K (.ref fa) = true) (hb : Binds X.K fd ps []) (hdb : (x == ("__debug__" : Str)) = false) : PE X (.Call (.Name x p) [] [] pos) (tE c (.call f .nil)) :=
  PE.le (pe_call0 F hr hg hm hk hb .nil pass0 hdb) fun σ H Q h => by
    obtain ⟨G, ρ, sv, ρ', R, e, q⟩ := h
    unfold ev at e
    obtain ⟨ds, ρ1, e1, e⟩ := bd_some e
    unfold evs at e1
    cases e1
    obtain ⟨p, e2, e⟩ := ob_some e
    obtain ⟨sv2, r⟩ := p
    cases e
    refine ⟨G, [], sv2, r, R.le, .nil, e2, fun v H2 N => ?_⟩
    obtain ⟨G3, E3, R3, S3⟩ := fin_new R N
    exact q v H2 G3 E3 R3 S3
theorem s_callr {f k r : Nat} {fa : Addr} {fd : FuncData} {ps : List Str} {x y : Str} {p p2 : Pos} {es0 : List Expr} (F : FnOk X.prog X.w X.K X.mg X.base CX0 k fa fd ps (spF c f true)) (hr : Room k X.A) (hg : Gl X x) (hm : X.mg x = some (.ref fa))
    (hk : PySem.W.keepIn X.K (.ref fa) = true) (hb : Binds X.K fd ps []) (hv : PE X (.Name y p2) (tVar r)) (ha : PA X es0 (tA c es)) (hdb : (x == ("__debug__" : Str)) = false)
    (hpl : (backTo pos (starEach es0 X.env)).any (·.1) = false) (nd : isDl f = false) : PE X (.Call (.Name x p) (.Name y p2 :: es0) [] pos) (tE c (.callr f r es)) :=
  PE.le (pe_call F hr hg hm hk hb .nil pass0 (pa_cons hv ha) hdb rfl hpl) fun σ H Q h => by
    obtain ⟨G, ρ, sv, ρ', R, e, q⟩ := h
    unfold ev at e
    rw [isOb_dl nd, if_neg (by decide), nd, if_neg (by decide)] at e
    obtain ⟨row0, e0, e⟩ := ob_some e
    obtain ⟨ds, ρ1, e1, e⟩ := bd_some e
    obtain ⟨row, e2, e⟩ := ob_some e
    obtain ⟨p, e3, e⟩ := ob_some e
    obtain ⟨sv2, row2⟩ := p
    obtain ⟨ρ2, e4, e⟩ := ob_some e
    cases e
    obtain ⟨a, xs0, sv0, k1, _⟩ := slotL_at R e0
    refine ⟨.ref a, k1, G, ρ, ds, ρ1, R, e1, fun vs H1 G1 E1 R1 D1 => ?_⟩
    obtain ⟨a', xs, sv1, k2, k3, k4, h1, g1, d1⟩ := slotL_at R1 e2
    rw [k1] at k2
    cases k2
    show spF c f true ((.ref a :: vs) ++ []) H1 Q E0
    rw [List.append_nil]
    refine .inl ⟨nd, G1, a, xs, row, vs, ds, sv2, row2, rfl, R1.le, h1, g1, d1, D1, e3, fun v H2 N => ?_⟩
    obtain ⟨G2, xs', s1, s2, kp, cl, g2, h2, d2, V2⟩ := N
    obtain ⟨E2, R2, hb2⟩ := R1.wrote k1 e4 s1 s2 kp cl g2 h2 d2
    refine q v H2 G2 (E1.trans E2) R2 (SvR.older ?_ E1.dom)
    cases sv2 with
    | val dd => exact .val V2
    | own es2 =>
      obtain ⟨a2, ys, rfl, n1, n2, n3, n4⟩ := V2
      exact .own n3 n2 n4 n1 fun z => (R1.new n1).1 (hb2 _ z)
    | dct lk kvs =>
      cases lk with
      | true => exact V2.elim
      | false =>
        obtain ⟨a2, ys, rfl, n1, n2, n3, n4⟩ := V2
        exact .dct n3 n2 n4 n1 fun z => (R1.new n1).1 (hb2 _ z)
    | dk kvs =>
      obtain ⟨a2, ys, rfl, n1, n2, n3, n4⟩ := V2
      exact .dk n3 n2 n4 n1 fun z => (R1.new n1).1 (hb2 _ z)
    | gho _ => exact V2.elim
    | oll _ _ => exact V2.elim
    | un => exact V2.elim
    | row _ => exact V2.elim
    | rdc _ => exact V2.elim
    | obj _ => exact V2.elim

/-- a call that is lent a dict -/
theorem s_callrD {f k r : Nat} {fa : Addr} {fd : FuncData} {ps : List Str} {x y : Str} {p p2 : Pos} {f1 f2 : E} {b1 b2 : Expr} (F : FnOk X.prog X.w X.K X.mg X.base CX0 k fa fd ps (spF c f true)) (hr : Room k X.A) (hg : Gl X x) (hm : X.mg x = some (.ref fa))
    (hk : PySem.W.keepIn X.K (.ref fa) = true) (hb : Binds X.K fd ps []) (hv : PE X (.Name y p2) (tVar r)) (ha : PE X b1 (tE c f1)) (ha2 : PE X b2 (tE c f2)) (hdb : (x == ("__debug__" : Str)) = false)
    (hs1 : ∀ es, starEach (b1 :: es) X.env = (false, eval b1 X.env) :: starEach es X.env) (hs2 : ∀ es, starEach (b2 :: es) X.env = (false, eval b2 X.env) :: starEach es X.env) (nd : isDl f = true) (no : isOb f = false) : PE X (.Call (.Name x p) [b1, b2, .Name y p2] [] pos) (tE c (.callr f r (.cons f1 (.cons f2 .nil)))) :=
  PE.le (pe_call F hr hg hm hk hb .nil pass0 (pa_cons (sD ha) (pa_cons (sD ha2) (pa_cons hv pa_nil rfl) (hs2 _)) (hs1 _)) hdb (hs1 _) (by rw [hs2]; rfl)) fun σ H Q h => by
    obtain ⟨G, ρ, sv, ρ', R, e, q⟩ := h
    unfold ev at e
    rw [no, if_neg (by decide), if_pos nd] at e
    obtain ⟨_, e0, e⟩ := ob_some e
    obtain ⟨ds, ρ1, e1, e⟩ := bd_some e
    unfold evs at e1
    obtain ⟨sva, ρa, d1, ea, za, e1⟩ := bz_some e1
    obtain ⟨dr, ρb, eb, e1⟩ := bd_some e1
    cases e1
    unfold evs at eb
    obtain ⟨svb, ρ2, d2, eb2, zb, eb⟩ := bz_some eb
    obtain ⟨dr2, ρ3, ec, eb⟩ := bd_some eb
    cases eb
    unfold evs at ec
    cases ec
    obtain ⟨qv, e2, e⟩ := ob_some e
    obtain ⟨p, e3, e⟩ := ob_some e
    obtain ⟨sv2, row2⟩ := p
    obtain ⟨kvs', e4, e⟩ := ob_some e
    cases e
    refine ⟨G, ρ, sva, d1, _, R, ea, za, fun x H1 G1 E1 R1 D1 => ⟨G1, _, svb, d2, _, R1, eb2, zb, fun y H2 G2 E2 R2 D2 => ?_⟩⟩
    obtain ⟨a, xs, sv0, k1, k3, hh, hl, h1, g1, r1⟩ := slotV_at R2 e2
    refine ⟨.ref a, k1, ?_⟩
    show spF c f true ([x, y, .ref a] ++ []) H2 Q E0
    rw [List.append_nil]
    refine .inr (.inl ⟨nd, no, G2, a, xs, qv.2, [x, y], [d1, d2], sv2, row2, kvs', rfl, R2.le, h1, g1, r1, .cons (D1.mono E2.sub) (.cons D2 .nil), e3, e4, fun v H3 N => ?_⟩)
    obtain ⟨G3, xs', s1, s2, kp, cl, g2, h2, d3, V2⟩ := N
    obtain ⟨Ew, Rw, hb2⟩ := R2.wroteX (G' := G3) (H' := H3) (sv := mkV qv.1 kvs') k1 k3 hh (mkV_hot _ _) s1 s2 kp cl h2 (mkV_R h2 g2 d3) (fun b z => hl b _ z) (.inl (mkV_tied _ _))
    refine q v H3 G3 ((E1.trans E2).trans Ew) Rw (SvR.older ?_ (E1.trans E2).dom)
    cases sv2 with
    | val dd => exact .val V2
    | own es2 =>
      obtain ⟨a2, ys, rfl, n1, n2, n3, n4⟩ := V2
      exact .own n3 n2 n4 n1 fun z => (R2.new n1).1 (hb2 _ z)
    | dct lk kvs =>
      cases lk with
      | true => exact V2.elim
      | false =>
        obtain ⟨a2, ys, rfl, n1, n2, n3, n4⟩ := V2
        exact .dct n3 n2 n4 n1 fun z => (R2.new n1).1 (hb2 _ z)
    | dk kvs =>
      obtain ⟨a2, ys, rfl, n1, n2, n3, n4⟩ := V2
      exact .dk n3 n2 n4 n1 fun z => (R2.new n1).1 (hb2 _ z)
    | gho _ => exact V2.elim
    | oll _ _ => exact V2.elim
    | rdc _ => exact V2.elim
    | obj _ => exact V2.elim
    | un => exact V2.elim
    | row _ => exact V2.elim

/-! ### what is walked -/
def ItR (G : Hp) (J : It) (ds : List D) : Prop := ∀ (j : Nat) (G2 H2 : Hp), Same G G2 → Same G2 H2 → (j < ds.length → J.go j H2) ∧ (j = ds.length → J.stop j H2) ∧
  ∀ x H3 dd, J.yld j H2 x H3 → ds[j]? = some dd → ∃ G3, Same G2 G3 ∧ Same G3 H3 ∧ Same H2 H3 ∧ (∀ b o, H2 b = some o → G2 b = none → NT o → G3 b = none) ∧ Dr G3 x dd
def tI (c : FT) (it : E) : TI := fun σ H R => ∃ G ρ ds ρ', Rel G H σ ρ ∧ evi c it ρ = some (ds, ρ') ∧ ∀ J H' G', Ext G H σ ρ G' H' σ ρ' → Rel G' H' σ ρ' → ItR G' J ds → R J H'
/-- the last of a list that a name holds -/
theorem Drs.last {G : Hp} : ∀ {ds : List D} {xs : List V} {d : D}, Drs G xs ds → ds.getLast? = some d → ∃ y, xs[xs.length - 1]? = some y ∧ Dr G y d ∧ Drs G xs.dropLast ds.dropLast
  | [], _, _, _, h => by cases h
  | [e], _, d, .cons (v := v) a .nil, h => by
    have : e = d := Option.some.inj h
    subst this
    exact ⟨v, rfl, a, .nil⟩
  | e :: e2 :: r, _, d, .cons (v := v) (vs := vs) a b, h => by
    have h2 : (e2 :: r).getLast? = some d := by rw [← h]; simp
    obtain ⟨y, h3, h4, h5⟩ := Drs.last b h2
    cases b with
    | @cons v2 vs2 _ _ b1 b2 =>
      refine ⟨y, ?_, h4, .cons a h5⟩
      rw [← h3]; rfl
theorem s_pop {j : Nat} {e0 : Expr} (h : PE X e0 (tBM0 X.K "list" rPop (tVar j))) : PE X e0 (tE c (.pop j)) := PE.le h fun σ H Q ⟨G, ρ, sv, ρ', R, e, q⟩ => by
  unfold ev at e
  obtain ⟨ds, e1, e⟩ := ob_some e
  obtain ⟨d, e2, e⟩ := ob_some e
  obtain ⟨ρ2, e3, e⟩ := ob_some e
  cases e
  obtain ⟨a, xs, sv1, k1, k2, k3, h0, g0, d0⟩ := slotL_at R e1
  obtain ⟨y, hy, dy, dl⟩ := d0.last e2
  obtain ⟨E3, R3⟩ := R.write k1 g0 e3 dl
  exact ⟨.ref a, k1, .inl ⟨rfl, xs, SqL.of h0⟩, a, xs, y, rfl, rfl, h0, hy, q _ _ _ E3 R3 (.val dy)⟩
/-- a call that is lent one list of the caller's own, and tells a number -/
theorem s_ln {f k j : Nat} {fa : Addr} {fd : FuncData} {ps : List Str} {x y : Str} {p p2 : Pos} (F : FnOk X.prog X.w X.K X.mg X.base CX0 k fa fd ps (spF c f false)) (hr : Room k X.A) (hg : Gl X x) (hm : X.mg x = some (.ref fa))
    (hk : PySem.W.keepIn X.K (.ref fa) = true) (hb : Binds X.K fd ps []) (hv : PE X (.Name y p2) (tVar j)) (ha : PA X [] (tA c .nil)) (hdb : (x == ("__debug__" : Str)) = false) : PE X (.Call (.Name x p) [.Name y p2] [] pos) (tE c (.ln f j)) :=
  PE.le (pe_call F hr hg hm hk hb .nil pass0 (pa_cons hv ha) hdb rfl rfl) fun σ H Q h => by
    obtain ⟨G, ρ, sv, ρ', R, e, q⟩ := h
    unfold ev at e
    cases z : rd ρ j with
    | own ds =>
      rw [z] at e
      obtain ⟨pp, e2, e⟩ := ob_some e
      obtain ⟨sv2, r⟩ := pp
      obtain ⟨a, _, k1, _⟩ := R.thaw (rd_get z (by intro z; cases z))
      refine ⟨.ref a, k1, G, ρ, [], ρ, R, by unfold evs; rfl, fun vs H1 G1 E1 R1 D1 => ?_⟩
      cases D1
      obtain ⟨a', G', k2, E3, R3, D3⟩ := R1.thaw (rd_get z (by intro z; cases z))
      rw [k1] at k2
      cases k2
      show spF c f false [.ref a] H1 Q E0
      refine ⟨G', [.list ds], sv2, r, R3.le, .cons D3 .nil, e2, fun v H2 N => ?_⟩
      obtain ⟨G2, s1, s2, s3, _, qv⟩ := N
      cases sv2 with
      | val d =>
        cases d with
        | int n =>
          cases e
          cases qv
          refine q _ H2 G1 (E1.trans ⟨fun _ _ h => h, fun b o h _ => s3 b o h, fun b o _ g _ _ => g, fun b h => s3.free h, fun b h => .inl h, fun i b _ h1 h2 => ⟨h1, h2⟩⟩) (R1.grow (fun _ _ h => h) (fun b o h => s3 b o (R1.le b o h)) fun b xs zz h => ⟨s3 _ _ h, R1.hotG zz⟩) (.val (.int _))
        | _ => cases e
      | _ => cases e
    | _ => rw [z] at e; cases e
theorem Same.none {G H : Hp} (s : Same G H) : ∀ b o, H b = some o → G b = none → NT o → G b = none := fun _ _ _ g _ => g
theorem itr_list {K : PySem.W.Frag} {G : Hp} {p : Addr} {xs : List V} {ds : List D} (h : G p = some (.lst xs)) (r : Drs G xs ds) : ItR G (Itl K p) ds := by
  intro j G2 H2 s1 s2
  have hS : SqL K H2 p xs := SqL.of (s2 _ _ (s1 _ _ h))
  refine ⟨fun hj => ?_, fun hj => ⟨xs, hS, by rw [r.length, hj]; exact Nat.le_refl _⟩, fun x H3 dd y hd => ?_⟩
  · have hj' : j < xs.length := by rw [r.length]; exact hj
    exact ⟨xs, _, hS, List.getElem?_eq_getElem hj'⟩
  · obtain ⟨rfl, hx⟩ := y
    obtain ⟨dd', h1, h2⟩ := r.get (hx _ hS)
    rw [hd] at h1
    cases h1
    exact ⟨G2, Same.refl _, s2, Same.refl _, fun _ _ _ g _ => g, h2.mono s1⟩
theorem itr_tup {K : PySem.W.Frag} {G : Hp} {p : Addr} {xs : List V} {ds : List D} (h : TF G p xs) (r : Drs G xs ds) : ItR G (Itt K p) ds := by
  intro j G2 H2 s1 s2
  have hS : SqT K H2 p xs := ((h.mono s1).mono s2).sq
  refine ⟨fun hj => ?_, fun hj => ⟨xs, hS, by rw [r.length, hj]; exact Nat.le_refl _⟩, fun x H3 dd y hd => ?_⟩
  · have hj' : j < xs.length := by rw [r.length]; exact hj
    exact ⟨xs, _, hS, List.getElem?_eq_getElem hj'⟩
  · obtain ⟨rfl, hx⟩ := y
    obtain ⟨dd', h1, h2⟩ := r.get (hx _ hS)
    rw [hd] at h1
    cases h1
    exact ⟨G2, Same.refl _, s2, Same.refl _, fun _ _ _ g _ => g, h2.mono s1⟩
theorem rngD_at {u v : Int} {j : Nat} {dd : D} (h : (rngD u v)[j]? = some dd) : dd = .int (u + (j : Nat)) ∧ j < (v - u).toNat := by
  unfold rngD at h
  rw [List.getElem?_map] at h
  cases e : (List.range (v - u).toNat)[j]? with
  | none => rw [e] at h; cases h
  | some k =>
    rw [e] at h
    cases h
    obtain ⟨h1, h2⟩ := List.getElem?_eq_some_iff.mp e
    rw [List.getElem_range] at h2
    subst h2
    exact ⟨rfl, by simpa using h1⟩
theorem rngD_length (u v : Int) : (rngD u v).length = (v - u).toNat := by unfold rngD; rw [List.length_map, List.length_range]
theorem itr_rng {G : Hp} {u v : Int} : ItR G (Itr u (v - u).toNat) (rngD u v) := by
  intro j G2 H2 s1 s2
  rw [rngD_length]
  refine ⟨fun hj => hj, fun hj => by show (v - u).toNat ≤ j; omega, fun x H3 dd y hd => ?_⟩
  obtain ⟨rfl, rfl⟩ := y
  obtain ⟨rfl, _⟩ := rngD_at hd
  exact ⟨G2, Same.refl _, s2, Same.refl _, fun _ _ _ g _ => g, .int _⟩
theorem itr_keys {G : Hp} {d : Addr} {o : Obj} {xs : Ens} {kvs : List (List Int × D)} (h : G d = some (.frz o (DO d xs))) (r : KvR G xs kvs) : ItR G (ItD d o xs) (keysD kvs) := by
  intro j G2 H2 s1 s2
  have hd : H2 d = some (.frz o (DO d xs)) := s2 _ _ (s1 _ _ h)
  have hl : (keysD kvs).length = xs.length := by unfold keysD; rw [List.length_map, r.length]
  refine ⟨fun hj => ⟨hd, by omega⟩, fun hj => ⟨hd, by omega⟩, fun x H3 dd y hdd => ?_⟩
  obtain ⟨rfl, p, hp, rfl⟩ := y
  obtain ⟨dv, h1, h2⟩ := kvr_get r hp
  have e : dd = .tuple (p.1.map .int) := by
    unfold keysD at hdd
    rw [List.getElem?_map, h1] at hdd
    exact (Option.some.inj hdd).symm
  subst e
  exact ⟨G2, Same.refl _, s2, Same.refl _, fun _ _ _ g _ => g, .tup (h2.mono s1) (Drs.ints p.1)⟩
theorem i_keys {j : Nat} {ap : Pos} {tg : Expr} (hbase : attributeBase d0 (Str.ofString "keys") X.env (eval d0 X.env) = eval d0 X.env) (hl : (ap.endLine == pos.line) = true) (hv : PE X d0 (tVar j)) : PI X tg (.Call (.Attribute d0 (Str.ofString "keys") ap) [] [] pos) (tI c (.dx .keys j a b)) :=
  PI.le (pi_keysT hv hbase hl) fun σ H R ⟨G, ρ, ds, ρ', R0, e, q⟩ => by
    unfold evi at e
    obtain ⟨kvs, e0, e⟩ := ob_some e
    cases e
    obtain ⟨ad, _, lk, h1, h2, _, _⟩ := slotF_at R0 e0
    cases lk with
    | false =>
      obtain ⟨a2, ys, k1, _, k3, k4, k5⟩ := slotU_at (kvs := kvs) R0 (by unfold slotU; unfold rd; rw [List.getD_eq_getElem?_getD, h2]; rfl)
      rw [h1] at k1
      cases k1
      refine ⟨.ref ad, h1, ad, ys, rfl, .inr ⟨k3, fun o => ?_⟩⟩
      obtain ⟨E1, R1⟩ := R0.frees h1 h2 k3 k4 k5 o
      exact q _ _ _ E1 R1 (itr_keys upd_same (k5.mono (same_upd k4)))
    | true =>
      obtain ⟨ov, k1, k2⟩ := R0.at h2
      rw [h1] at k1
      cases k1
      cases k2 with
      | @dcf _ o ys _ x1 x2 =>
        refine ⟨.ref ad, h1, ad, ys, rfl, .inl ⟨o, R0.le _ _ x1, ?_⟩⟩
        have e4 : ρ.set j (.dct true kvs) = ρ := by
          apply List.ext_getElem?
          intro i
          by_cases c : j = i
          · subst c
            rw [List.getElem?_set_self (List.getElem?_eq_some_iff.mp h2).1, h2]
          · rw [List.getElem?_set_ne c]
        rw [e4] at q
        exact q _ H G Ext.refl R0 (itr_keys x1 x2)
theorem i_kys {ap cp : Pos} {tg : Expr} (hbase : attributeBase a0 (Str.ofString "keys") X.env (eval a0 X.env) = eval a0 X.env) (hl : (ap.endLine == cp.line) = true) (ha : PE X a0 (tE c a)) : PI X tg (.Call (.Attribute a0 (Str.ofString "keys") ap) [] [] cp) (tI c (.kys a)) :=
  PI.le (pi_keysT ha hbase hl) fun σ H R ⟨G, ρ, ds, ρ', R0, e, q⟩ => by
    unfold evi at e
    cases e1 : ev c a ρ with
    | none => rw [e1] at e; cases e
    | some pr =>
      obtain ⟨sva, ρ1⟩ := pr
      rw [e1] at e
      have hd : ∃ kvs, sva = .dct false kvs := by
        cases sva with
        | dct lk kvs => cases lk with
          | false => exact ⟨_, rfl⟩
          | true => cases e
        | _ => cases e
      obtain ⟨kvs, rfl⟩ := hd
      cases e
      refine ⟨G, ρ, _, _, R0, e1, fun v H1 G1 E1 R1 S1 => ?_⟩
      cases S1 with
      | @dct a xs _ hH hG hK h0 hn =>
        refine ⟨a, xs, rfl, .inr ⟨hH, fun o => ?_⟩⟩
        have s1 : Same G1 (upd G1 a (.frz o (DO a xs))) := same_upd hG
        have ex := E1.upd_fresh (p := a) (o := .frz o (DO a xs)) h0
        refine q _ _ (upd G1 a (.frz o (DO a xs))) ⟨ex.sub.trans s1, ex.keep, fun b u h g n t => by rw [upd_ne (ne_of_none h h0)]; exact ex.cold b u h g n t, ex.dom, ex.old, ex.row⟩ (R1.grow s1 (fun b u h => ?_) fun b u z h => ⟨?_, ?_⟩) (itr_keys upd_same (hK.mono s1))
        · by_cases c : b = a
          · subst c; rw [upd_same] at h ⊢; exact h
          · rw [upd_ne c] at h ⊢; exact R1.le b u h
        · rw [upd_ne (fun e => hn (by rw [← e]; exact z))]; exact h
        · rw [upd_ne (fun e => hn (by rw [← e]; exact z))]; exact R1.hotG z
/-- a list or a tuple, by its kind -/
theorem seq_kind {K : PySem.W.Frag} {G : Hp} {v : V} {dd : D} {ds : List D} (h : Dr G v dd) (e : seqD dd = some ds) : ∃ k p xs, v = .ref p ∧ Drs G xs ds ∧ ∀ G2 H2, Same G G2 → Same G2 H2 → SqK K H2 k p xs := by
  cases h with
  | lst ha ra => cases e; exact ⟨true, _, _, rfl, ra, fun G2 H2 s1 s2 => SqL.of (s2 _ _ (s1 _ _ ha))⟩
  | tup ha ra => cases e; exact ⟨false, _, _, rfl, ra, fun G2 H2 s1 s2 => ((ha.mono s1).mono s2).sq⟩
  | _ => cases e
theorem enumD_at : ∀ {ds : List D} {n j : Nat} {dd : D}, (enumD n ds)[j]? = some dd → ∃ d2, ds[j]? = some d2 ∧ dd = prD [.int ((n + j : Nat) : Int), d2]
  | [], _, _, _, h => by simp [enumD] at h
  | x :: xs, n, 0, dd, h => by simp [enumD] at h; exact ⟨x, rfl, by rw [← h]; rfl⟩
  | x :: xs, n, j + 1, dd, h => by
    have h' : (enumD (n + 1) xs)[j]? = some dd := by simpa [enumD] using h
    obtain ⟨d2, h1, h2⟩ := enumD_at h'
    exact ⟨d2, by simpa using h1, by rw [h2]; congr 3; omega⟩
theorem enumD_length : ∀ (ds : List D) (n : Nat), (enumD n ds).length = ds.length
  | [], _ => rfl
  | x :: xs, n => by unfold enumD; rw [List.length_cons, List.length_cons, enumD_length xs]
theorem zipD_at : ∀ {ds es : List D} {j : Nat} {dd : D}, (zipD ds es)[j]? = some dd → ∃ d2 e2, ds[j]? = some d2 ∧ es[j]? = some e2 ∧ dd = prD [d2, e2]
  | [], _, _, _, h => by simp [zipD] at h
  | _ :: _, [], _, _, h => by simp [zipD] at h
  | x :: xs, y :: ys, 0, dd, h => by simp [zipD] at h; exact ⟨x, y, rfl, rfl, h.symm⟩
  | x :: xs, y :: ys, j + 1, dd, h => by
    have h' : (zipD xs ys)[j]? = some dd := by simpa [zipD] using h
    obtain ⟨d2, e2, h1, h2, h3⟩ := zipD_at h'
    exact ⟨d2, e2, by simpa using h1, by simpa using h2, h3⟩
theorem zipD_length : ∀ (ds es : List D), (zipD ds es).length = min ds.length es.length
  | [], _ => by simp [zipD]
  | _ :: _, [] => by simp [zipD]
  | x :: xs, y :: ys => by unfold zipD; rw [List.length_cons, List.length_cons, List.length_cons, zipD_length xs ys]; omega
/-- a new pair, told as data -/
theorem new_pair {G2 H2 : Hp} {T : Addr} {x y : V} {dx dy : D} (s2 : Same G2 H2) (n : H2 T = none) (h1 : Dr G2 x dx) (h2 : Dr G2 y dy) :
    ∃ G3, Same G2 G3 ∧ Same G3 (upd H2 T (.tup [x, y])) ∧ Same H2 (upd H2 T (.tup [x, y])) ∧ (∀ b o, H2 b = some o → G2 b = none → NT o → G3 b = none) ∧ Dr G3 (.ref T) (prD [dx, dy]) := by
  obtain ⟨s3, s4, s5, f, q⟩ := svn_pr (p := T) (xs := [x, y]) (ds := [dx, dy]) s2 (.cons h1 (.cons h2 .nil)) n
  exact ⟨_, s3, s4, s5, f, q⟩
theorem i_seq (h : PE X a0 (tE c a)) {tg : Expr} : PI X tg a0 (tI c (.seq a)) := by
  have go : PI X tg a0 (fun σ H R => tD c a σ H fun x H1 => ∃ p, x = .ref p ∧ (((∃ xs, SqL X.K H1 p xs) ∧ R (Itl X.K p) H1) ∨ ((∃ xs, SqT X.K H1 p xs) ∧ R (Itt X.K p) H1))) := by
    refine ⟨fun pins s σ H R I h0 => ?_⟩
    refine thn ((sD h).run pins s σ H _ I h0) fun v s1 ⟨x, H1, I1, r1, p, ep, q⟩ => ?_
    subst ep
    cases r1
    rcases q with ⟨⟨xs, hS⟩, q⟩ | ⟨⟨xs, hS⟩, q⟩
    · obtain ⟨its, rv, pl, hz⟩ := I1.list hS
      refine wpAny_pyIter_list pl.isList ?_
      refine ⟨s1.heap.objs.size, [s1.heap.objs.size], _, _, H1, rfl, I1.kept (t' := s1.toks) fun b o e => Heap.get?_push_of_some _ e, turn_list p _, ⟨_, Heap.get?_push_size _ rfl, rfl, rfl⟩, fun b hb => ?_, q⟩
      have e : b = s1.heap.objs.size := by simpa using hb
      subst e
      exact I1.fpOk (Nat.le_refl _) (I1.hok.fresh (Nat.le_refl _))
    · obtain ⟨its, rv, pl, hz⟩ := I1.tuple hS
      refine wpAny_pyIter_tuple (show s1.heap.IsTuple p its.toArray from pl) ?_
      refine ⟨s1.heap.objs.size, [s1.heap.objs.size], _, _, H1, rfl, I1.kept (t' := s1.toks) fun b o e => Heap.get?_push_of_some _ e, turn_tuple p _, ⟨_, Heap.get?_push_size _ rfl, rfl, rfl⟩, fun b hb => ?_, q⟩
      have e : b = s1.heap.objs.size := by simpa using hb
      subst e
      exact I1.fpOk (Nat.le_refl _) (I1.hok.fresh (Nat.le_refl _))
  refine PI.le go fun σ H R ⟨G, ρ, ds, ρ', R0, e, q⟩ => ?_
  unfold evi at e
  obtain ⟨sva, ρ1, dx, e1, z1, e⟩ := bz_some e
  obtain ⟨es2, e2, e⟩ := ob_some e
  cases e
  refine ⟨G, ρ, sva, dx, _, R0, e1, z1, fun x H1 G1 E1 R1 D1 => ?_⟩
  cases D1 with
  | lst ha ra => cases e2; exact ⟨_, rfl, .inl ⟨⟨_, SqL.of (R1.le _ _ ha)⟩, q _ H1 G1 E1 R1 (itr_list ha ra)⟩⟩
  | tup ha ra => cases e2; exact ⟨_, rfl, .inr ⟨⟨_, (ha.mono R1.le).sq⟩, q _ H1 G1 E1 R1 (itr_tup ha ra)⟩⟩
  | _ => cases e2
theorem i_rng1 {p : Pos} {tg : Expr} (hg : Gl X "range") (hm : X.mg "range" = none) (hs : starEach [a0] X.env = (false, eval a0 X.env) :: starEach [] X.env) (h : PE X a0 (tE c a)) : PI X tg (.Call (.Name "range" p) [a0] [] pos) (tI c (.rng1 a)) :=
  PI.le (pi_range1 hg hm (a_one hs (sD h)) hs) fun σ H R ⟨G, ρ, ds, ρ', R0, e, q⟩ => by
    unfold evi at e
    obtain ⟨sva, ρ1, dx, e1, z1, e⟩ := bz_some e
    have hx : ∃ n, dx = .int n := by cases dx <;> first | exact ⟨_, rfl⟩ | cases e
    obtain ⟨n, rfl⟩ := hx
    obtain ⟨hz, e⟩ := ite_some e
    cases e
    have hn := rngOk_lt hz
    refine ⟨G, ρ, sva, _, _, R0, e1, z1, fun x H1 G1 E1 R1 D1 => ?_⟩
    cases D1
    have q2 := q (Itr 0 (n - 0).toNat) H1 G1 E1 R1 itr_rng
    rw [Int.sub_zero] at q2
    exact ⟨n, rfl, by omega, by omega, q2⟩
theorem i_rng2 {p : Pos} {tg : Expr} (hg : Gl X "range") (hm : X.mg "range" = none) (hs : starEach [a0, b0] X.env = (false, eval a0 X.env) :: starEach [b0] X.env) (hs2 : starEach [b0] X.env = (false, eval b0 X.env) :: starEach [] X.env)
    (ha : PE X a0 (tE c a)) (hb : PE X b0 (tE c b)) : PI X tg (.Call (.Name "range" p) [a0, b0] [] pos) (tI c (.rng2 a b)) :=
  PI.le (pi_range2 hg hm (pa_cons (sD ha) (pa_cons (sD hb) pa_nil hs2) hs) (by rw [hs, hs2]; rfl) hs2) fun σ H R ⟨G, ρ, ds, ρ', R0, e, q⟩ => by
    unfold evi at e
    obtain ⟨sva, ρ1, dx, e1, z1, e⟩ := bz_some e
    obtain ⟨svb, ρ2, dy, e2, z2, e⟩ := bz_some e
    have hx : ∃ n m, dx = .int n ∧ dy = .int m := by cases dx <;> cases dy <;> first | exact ⟨_, _, rfl, rfl⟩ | cases e
    obtain ⟨n, m, rfl, rfl⟩ := hx
    obtain ⟨hz, e⟩ := ite_some e
    cases e
    rw [Bool.and_eq_true] at hz
    have hn := rngOk_lt hz.1
    have hm2 := rngOk_lt hz.2
    refine ⟨G, ρ, sva, _, _, R0, e1, z1, fun x H1 G1 E1 R1 D1 => ⟨G1, _, svb, _, _, R1, e2, z2, fun y H2 G2 E2 R2 D2 => ?_⟩⟩
    cases D1
    cases D2
    exact ⟨n, m, rfl, by omega, q _ H2 G2 (E1.trans E2) R2 itr_rng⟩
theorem i_enum {p tp : Pos} {elts : List Expr} {kk : Nat} (hg : Gl X "enumerate") (hm : X.mg "enumerate" = none) (hs : starEach [a0] X.env = (false, eval a0 X.env) :: starEach [] X.env) (h : PE X a0 (tE c a)) :
    PI X (.Tuple elts kk tp) (.Call (.Name "enumerate" p) [a0] [] pos) (tI c (.enum a)) :=
  PI.le (pi_en hg hm (a_one hs (sD h)) hs) fun σ H R ⟨G, ρ, ds, ρ', R0, e, q⟩ => by
    unfold evi at e
    obtain ⟨sva, ρ1, dx, e1, z1, e⟩ := bz_some e
    obtain ⟨es2, e2, e⟩ := ob_some e
    cases e
    refine ⟨G, ρ, sva, dx, _, R0, e1, z1, fun x H1 G1 E1 R1 D1 => ?_⟩
    obtain ⟨k, pa, xs, rfl, ra, hS⟩ := seq_kind (K := X.K) D1 e2
    refine ⟨k, pa, xs, rfl, hS G1 H1 (Same.refl _) R1.le, q _ H1 G1 E1 R1 ?_⟩
    intro j G2 H2 s1 s2
    have hSj := hS G2 H2 s1 s2
    rw [enumD_length]
    refine ⟨fun hj => ?_, fun hj => ⟨xs, hSj, by rw [ra.length, hj]⟩, fun y H3 dd yl hd => ?_⟩
    · have hj' : j < xs.length := by rw [ra.length]; exact hj
      exact ⟨xs, _, hSj, List.getElem?_eq_getElem hj'⟩
    · obtain ⟨T, x2, rfl, nT, rfl, hx⟩ := yl
      obtain ⟨d2, h1, rfl⟩ := enumD_at hd
      obtain ⟨d3, h2, h3⟩ := ra.get (hx _ hSj)
      rw [h1] at h2
      cases h2
      rw [Nat.zero_add]
      exact new_pair s2 nT (.int _) (h3.mono s1)
theorem i_zip {p tp : Pos} {elts : List Expr} {kk : Nat} (hg : Gl X "zip") (hm : X.mg "zip" = none) (hs : starEach [a0, b0] X.env = (false, eval a0 X.env) :: starEach [b0] X.env) (hs2 : starEach [b0] X.env = (false, eval b0 X.env) :: starEach [] X.env)
    (hpl : (backTo pos (starEach [b0] X.env)).any (·.1) = false) (ha : PE X a0 (tE c a)) (hb : PE X b0 (tE c b)) : PI X (.Tuple elts kk tp) (.Call (.Name "zip" p) [a0, b0] [] pos) (tI c (.zip a b)) :=
  PI.le (pi_zi hg hm (pa_cons (sD ha) (pa_cons (sD hb) pa_nil hs2) hs) hs hpl) fun σ H R ⟨G, ρ, ds, ρ', R0, e, q⟩ => by
    unfold evi at e
    obtain ⟨sva, ρ1, dx, e1, z1, e⟩ := bz_some e
    obtain ⟨ds1, e2, e⟩ := ob_some e
    obtain ⟨svb, ρ2, dy, e3, z3, e⟩ := bz_some e
    obtain ⟨ds2, e4, e⟩ := ob_some e
    cases e
    refine ⟨G, ρ, sva, dx, _, R0, e1, z1, fun x H1 G1 E1 R1 D1 => ⟨G1, _, svb, dy, _, R1, e3, z3, fun y H2 G2 E2 R2 D2 => ?_⟩⟩
    obtain ⟨k, pa, xs, rfl, ra, hS⟩ := seq_kind (K := X.K) D1 e2
    obtain ⟨l, pb, ys, rfl, rb, hS2⟩ := seq_kind (K := X.K) D2 e4
    refine ⟨k, l, pa, pb, xs, ys, rfl, hS G2 H2 E2.sub R2.le, hS2 G2 H2 (Same.refl _) R2.le, q _ H2 G2 (E1.trans E2) R2 ?_⟩
    intro j G3 H3 s1 s2
    have hSj := hS G3 H3 (E2.sub.trans s1) s2
    have hSj2 := hS2 G3 H3 s1 s2
    rw [zipD_length]
    refine ⟨fun hj => ?_, fun hj => ⟨xs, ys, hSj, hSj2, by rw [ra.length, rb.length, hj]⟩, fun y H4 dd yl hd => ?_⟩
    · have hj1 : j < xs.length := by rw [ra.length]; omega
      have hj2 : j < ys.length := by rw [rb.length]; omega
      exact ⟨xs, ys, _, _, hSj, hSj2, List.getElem?_eq_getElem hj1, List.getElem?_eq_getElem hj2⟩
    · obtain ⟨T, x2, y2, rfl, nT, rfl, hx, hy⟩ := yl
      obtain ⟨d2, e2, h1, h2, rfl⟩ := zipD_at hd
      obtain ⟨d3, h3, h4⟩ := ra.get (hx _ hSj)
      obtain ⟨d4, h5, h6⟩ := rb.get (hy _ hSj2)
      rw [h1] at h3
      cases h3
      rw [h2] at h5
      cases h5
      exact new_pair s2 nT ((h4.mono E2.sub).mono s1) (h6.mono s1)
/-- list(range(..)) -/
theorem s_lrng {e0 : Expr} {tr : St → Hp → (Int → Int → Hp → Prop) → Prop} {p : Pos} (hc : X.calm = true) (hg : Gl X "list") (hm : X.mg "list" = none) (he : PRg X e0 tr) (hs : starEach [e0] X.env = (false, eval e0 X.env) :: starEach [] X.env)
    (k : ∀ σ H Q, (∃ G ρ ds ρ', Rel G H σ ρ ∧ evi c i ρ = some (ds, ρ') ∧ okL ds.length = true ∧ ∀ u v H' G', Ext G H σ ρ G' H' σ ρ' → Rel G' H' σ ρ' → ds = rngD u v → rngOk u = true → rngOk v = true → Q u v H') → tr σ H Q) : PE X (.Call (.Name "list" p) [e0] [] pos) (tE c (.lrng i)) :=
  PE.le (pe_listRg hc hg hm he hs) fun σ H Q ⟨G, ρ, sv, ρ', R, e, q⟩ => by
    unfold ev at e
    obtain ⟨ds, ρ1, e1, e⟩ := bd_some e
    obtain ⟨hz, e⟩ := ite_some e
    cases e
    refine k σ H _ ⟨G, ρ, ds, _, R, e1, hz, fun u v H1 G1 E1 R1 ed hu hv => ?_⟩
    subst ed
    have h1 := rngOk_lt hu
    have h2 := rngOk_lt hv
    have hl := okL_le hz
    rw [rngD_length] at hl
    have hsl := sizeLine_eq
    refine ⟨⟨by omega, by omega, by omega, by omega, by omega⟩, fun r nr => ?_⟩
    have dr : ∀ Gx : Hp, Drs Gx (rgV u v) (rngD u v) := fun Gx => by
      unfold rgV rngD
      generalize (List.range (v - u).toNat) = l
      induction l with
      | nil => exact .nil
      | cons n r ih => exact .cons (.int _) ih
    obtain ⟨G3, E3, R3, S3⟩ := fin_new R1 (svn_lst (p := r) R1.le (dr _) nr)
    exact q _ _ G3 (E1.trans E3) R3 (S3.older E1.dom)
theorem s_trg {e0 : Expr} {tr : St → Hp → (Int → Int → Hp → Prop) → Prop} {p : Pos} (hc : X.calm = true) (hg : Gl X "tuple") (hm : X.mg "tuple" = none) (he : PRg X e0 tr) (hs : starEach [e0] X.env = (false, eval e0 X.env) :: starEach [] X.env)
    (k : ∀ σ H Q, (∃ G ρ ds ρ', Rel G H σ ρ ∧ evi c i ρ = some (ds, ρ') ∧ okL ds.length = true ∧ ∀ u v H' G', Ext G H σ ρ G' H' σ ρ' → Rel G' H' σ ρ' → ds = rngD u v → rngOk u = true → rngOk v = true → Q u v H') → tr σ H Q) : PE X (.Call (.Name "tuple" p) [e0] [] pos) (tE c (.trg i)) :=
  PE.le (pe_tupRgF hc hg hm he hs) fun σ H Q ⟨G, ρ, sv, ρ', R, e, q⟩ => by
    unfold ev at e
    obtain ⟨ds, ρ1, e1, e⟩ := bd_some e
    obtain ⟨hz, e⟩ := ite_some e
    cases e
    refine k σ H _ ⟨G, ρ, ds, _, R, e1, hz, fun u v H1 G1 E1 R1 ed hu hv => ?_⟩
    subst ed
    have h1 := rngOk_lt hu
    have h2 := rngOk_lt hv
    have hl := okL_le hz
    rw [rngD_length] at hl
    have hsl := sizeLine_eq
    refine ⟨⟨by omega, by omega, by omega, by omega, by omega⟩, fun r o nr hd => ?_⟩
    have dr : ∀ Gx : Hp, Drs Gx (rgV u v) (rngD u v) := fun Gx => by
      unfold rgV rngD
      generalize (List.range (v - u).toNat) = l
      induction l with
      | nil => exact .nil
      | cons n r ih => exact .cons (.int _) ih
    obtain ⟨G3, E3, R3, S3⟩ := fin_new R1 (svn_tup (p := r) R1.le (dr _) nr hd)
    exact q _ _ G3 (E1.trans E3) R3 (S3.older E1.dom)
end
end DP

/-! stores, targets, comprehensions -/
namespace DP
open PySem PySem.Spec PyProof.Rows L2
variable [CA : ClsA]

/-! ### a name is stored -/
theorem put_is {ρ ρ' : Rho} {j : Nat} {sv : SV} (h : put ρ j sv = some ρ') : ρ' = ρ.set j sv ∧ j < ρ.length ∧ ∀ b, ρ[j]?.bind lnt ≠ some b := by
  unfold put at h
  cases e : ρ[j]? with
  | none => rw [e] at h; cases h
  | some w =>
    rw [e] at h
    have hl : j < ρ.length := (List.getElem?_eq_some_iff.mp e).1
    cases w with
    | row ds => cases h
    | rdc ds => cases h
    | obj _ => cases h
    | un => cases h; exact ⟨rfl, hl, fun ds z => by cases z⟩
    | val d => cases h; exact ⟨rfl, hl, fun ds z => by cases z⟩
    | own ds => cases h; exact ⟨rfl, hl, fun ds z => by cases z⟩
    | dct lk kvs => cases h; exact ⟨rfl, hl, fun ds z => by cases z⟩
    | dk kvs => cases h; exact ⟨rfl, hl, fun ds z => by cases z⟩
    | gho ds => cases h; exact ⟨rfl, hl, fun ds z => by cases z⟩
    | oll lo n => cases h; exact ⟨rfl, hl, fun ds z => by cases z⟩
inductive SvT (G0 H0 : Hp) (σ0 : St) (ρ0 : Rho) (G H : Hp) (σ : St) (ρ : Rho) : V → SV → Prop
  | val {v : V} {d : D} : Dr G v d → SvT G0 H0 σ0 ρ0 G H σ ρ v (.val d)
  | own {a : Addr} {xs : List V} {ds : List D} : H a = some (.lst xs) → G a = none → Drs G xs ds → (HotAt σ0 ρ0 a ∨ H0 a = none) → ¬ HotAt σ ρ a → SvT G0 H0 σ0 ρ0 G H σ ρ (.ref a) (.own ds)
  | dct {a : Addr} {xs : Ens} {kvs : List (List Int × D)} : H a = some (DO a xs) → G a = none → KvR G xs kvs → (HotAt σ0 ρ0 a ∨ H0 a = none) → ¬ HotAt σ ρ a → SvT G0 H0 σ0 ρ0 G H σ ρ (.ref a) (.dct false kvs)
  | dk {a : Addr} {xs : List (L2.Key × V)} {kvs : List (L2.Key × D)} : H a = some (.dK xs) → G a = none → KdR G xs kvs → (HotAt σ0 ρ0 a ∨ H0 a = none) → ¬ HotAt σ ρ a → SvT G0 H0 σ0 ρ0 G H σ ρ (.ref a) (.dk kvs)
theorem SvR.toT {G0 H0 G H : Hp} {σ0 σ : St} {ρ0 ρ : Rho} {v : V} {sv : SV} (h : SvR G H σ ρ H0 v sv) : SvT G0 H0 σ0 ρ0 G H σ ρ v sv := by
  cases h with
  | val d => exact .val d
  | own h g q n c => exact .own h g q (.inr n) c
  | dct h g q n c => exact .dct h g q (.inr n) c
  | dk h g q n c => exact .dk h g q (.inr n) c
theorem put_ok {G0 H0 G H : Hp} {σ0 σ : St} {ρ0 ρ ρ' : Rho} {j : Nat} {v : V} {sv : SV} (E : Ext G0 H0 σ0 ρ0 G H σ ρ) (R : Rel G H σ ρ) (S : SvT G0 H0 σ0 ρ0 G H σ ρ v sv) (e : put ρ j sv = some ρ') :
    Ext G0 H0 σ0 ρ0 G H (σ.set j (some v)) ρ' ∧ Rel G H (σ.set j (some v)) ρ' ∧ ∀ b, HotAt (σ.set j (some v)) ρ' b → HotAt σ ρ b ∨ (v = .ref b ∧ hot sv = true) := by
  obtain ⟨rfl, hl, nr⟩ := put_is e
  have hls : j < σ.length := by rw [R.len]; exact hl
  have sl : SlotR G H (some v) sv := by
    cases S with
    | val d => exact .val d
    | own h g q _ _ => exact .own h g q
    | dct h g q _ _ => exact .dct h g q
    | dk h g q _ _ => exact .dk h g q
  have hot0 : ∀ b, HotAt (σ.set j (some v)) (ρ.set j sv) b → HotAt σ ρ b ∨ (v = .ref b ∧ hot sv = true) := fun b ⟨k, w, k1, k2, k3⟩ => by
    rcases set_at k2 with ⟨rfl, rfl⟩ | ⟨hk, k2⟩
    · rw [List.getElem?_set_self hls] at k1
      have ev : v = .ref b := Option.some.inj (Option.some.inj k1)
      subst ev
      exact .inr ⟨rfl, k3⟩
    · rw [List.getElem?_set_ne (fun z => hk z.symm)] at k1
      exact .inl ⟨k, w, k1, k2, k3⟩
  refine ⟨⟨E.sub, E.keep, E.cold, E.dom, fun b hb => ?_, fun k b ds k1 k2 => ?_⟩, ⟨R.le, by rw [List.length_set, List.length_set]; exact R.len, fun k o w k1 k2 => ?_, fun k l b w w' k1 k2 k3 l1 l2 l3 => ?_, R.tie.set (by cases S <;> rfl) fun k hk => List.getElem?_set_ne (fun z => hk z.symm)⟩, hot0⟩
  · rcases hot0 b hb with h | ⟨rfl, hs⟩
    · exact E.old b h
    · cases S with
      | val d => cases hs
      | own h g q n c => exact n
      | dct h g q n c => exact n
      | dk h g q n c => exact n
  · obtain ⟨q1, q2⟩ := E.row k b ds k1 k2
    have hk : j ≠ k := fun z => by subst z; exact nr _ q2
    exact ⟨by rw [List.getElem?_set_ne hk]; exact q1, by rw [List.getElem?_set_ne hk]; exact q2⟩
  · rcases set_at k2 with ⟨rfl, rfl⟩ | ⟨hk, k2⟩
    · rw [List.getElem?_set_self hls] at k1
      cases k1
      exact sl
    · rw [List.getElem?_set_ne (fun z => hk z.symm)] at k1
      exact R.slot k o w k1 k2
  · rcases set_at k2 with ⟨rfl, rfl⟩ | ⟨hk, k4⟩
    · rw [List.getElem?_set_self hls] at k1
      have ev : v = .ref b := Option.some.inj (Option.some.inj k1)
      rcases set_at l2 with ⟨rfl, rfl⟩ | ⟨hk2, l4⟩
      · rfl
      · rw [List.getElem?_set_ne (fun z => hk2 z.symm)] at l1
        subst ev
        cases S with
        | val d => cases k3
        | own h g q n c => exact absurd ⟨l, w', l1, l4, l3⟩ c
        | dct h g q n c => exact absurd ⟨l, w', l1, l4, l3⟩ c
        | dk h g q n c => exact absurd ⟨l, w', l1, l4, l3⟩ c
    · rw [List.getElem?_set_ne (fun z => hk z.symm)] at k1
      rcases set_at l2 with ⟨rfl, rfl⟩ | ⟨hk2, l4⟩
      · rw [List.getElem?_set_self hls] at l1
        have ev : v = .ref b := Option.some.inj (Option.some.inj l1)
        subst ev
        cases S with
        | val d => cases l3
        | own h g q n c => exact absurd ⟨k, w, k1, k4, k3⟩ c
        | dct h g q n c => exact absurd ⟨k, w, k1, k4, k3⟩ c
        | dk h g q n c => exact absurd ⟨k, w, k1, k4, k3⟩ c
      · rw [List.getElem?_set_ne (fun z => hk2 z.symm)] at l1
        exact R.sep k l b w w' k1 k4 k3 l1 l4 l3

/-! ### several values; several targets -/
inductive SvRs (G H : Hp) (σ : St) (ρ : Rho) (H0 : Hp) : List V → List SV → Prop
  | nil : SvRs G H σ ρ H0 [] []
  | cons {v : V} {sv : SV} {vs : List V} {svs : List SV} : SvR G H σ ρ H0 v sv → (∀ b, v = .ref b → hot sv = true → ∀ (k : Nat) sw, vs[k]? = some (.ref b) → svs[k]? = some sw → hot sw = true → False) → SvRs G H σ ρ H0 vs svs → SvRs G H σ ρ H0 (v :: vs) (sv :: svs)
theorem SvRs.length {G H H0 : Hp} {σ : St} {ρ : Rho} : ∀ {vs : List V} {svs : List SV}, SvRs G H σ ρ H0 vs svs → vs.length = svs.length
  | _, _, .nil => rfl
  | _, _, .cons _ _ r => by rw [List.length_cons, List.length_cons, SvRs.length r]
theorem SvRs.vals {G H H0 : Hp} {σ : St} {ρ : Rho} : ∀ {vs : List V} {ds : List D}, Drs G vs ds → SvRs G H σ ρ H0 vs (ds.map .val)
  | _, _, .nil => .nil
  | _, _, .cons h r => .cons (.val h) (fun _ _ z => Bool.noConfusion (show false = true from z)) (SvRs.vals r)
/-- the remaining values, behind a store of another one -/
theorem SvRs.next {G H H0 : Hp} {σ σ' : St} {ρ ρ' : Rho} {v : V} {sv : SV} (hot0 : ∀ b, HotAt σ' ρ' b → HotAt σ ρ b ∨ (v = .ref b ∧ hot sv = true)) : ∀ {vs : List V} {svs : List SV},
    (∀ b, v = .ref b → hot sv = true → ∀ (k : Nat) sw, vs[k]? = some (.ref b) → svs[k]? = some sw → hot sw = true → False) → SvRs G H σ ρ H0 vs svs → SvRs G H σ' ρ' H0 vs svs
  | _, _, _, .nil => .nil
  | _, _, ap, .cons h a r => .cons (by
      cases h with
      | val d => exact .val d
      | own h1 g q n c =>
        refine .own h1 g q n fun z => ?_
        rcases hot0 _ z with z | ⟨e1, e2⟩
        · exact c z
        · exact ap _ e1 e2 0 _ rfl rfl rfl
      | dct h1 g q n c =>
        refine .dct h1 g q n fun z => ?_
        rcases hot0 _ z with z | ⟨e1, e2⟩
        · exact c z
        · exact ap _ e1 e2 0 _ rfl rfl rfl
      | dk h1 g q n c =>
        refine .dk h1 g q n fun z => ?_
        rcases hot0 _ z with z | ⟨e1, e2⟩
        · exact c z
        · exact ap _ e1 e2 0 _ rfl rfl rfl) a (SvRs.next hot0 (fun b e1 e2 k sw h1 h2 h3 => ap b e1 e2 (k + 1) sw (by simpa using h1) (by simpa using h2) h3) r)
theorem wipe_set (σ : St) (o : Option V) : ∀ (vs : List Nat) (j : Nat), j ∈ vs → L2.wipe (σ.set j o) vs = L2.wipe σ vs
  | [], _, h => nomatch h
  | x :: xs, j, h => by
    unfold L2.wipe
    by_cases hx : j ∈ xs
    · rw [wipe_set σ o xs j hx]
    · have e : j = x := by
        rcases List.mem_cons.mp h with e | h
        · exact e
        · exact absurd h hx
      subst e
      have aux : ∀ (ys : List Nat), j ∉ ys → L2.wipe (σ.set j o) ys = (L2.wipe σ ys).set j o := by
        intro ys
        induction ys with
        | nil => intro _; rfl
        | cons y ys ih =>
          intro hn
          unfold L2.wipe
          rw [ih (fun z => hn (List.mem_cons_of_mem _ z)), List.set_comm _ _ (fun z => hn (by rw [z]; exact List.mem_cons_self))]
      rw [aux xs hx, List.set_set]
theorem wipe_twice (σ : St) : ∀ vs : List Nat, L2.wipe (L2.wipe σ vs) vs = L2.wipe σ vs := fun vs => by
  have aux : ∀ (ys : List Nat) (τ : St), (∀ y ∈ ys, y ∈ vs) → L2.wipe (L2.wipe τ ys) vs = L2.wipe τ vs := by
    intro ys
    induction ys with
    | nil => intro τ _; rfl
    | cons y ys ih =>
      intro τ hy
      show L2.wipe ((L2.wipe τ ys).set y none) vs = _
      rw [wipe_set _ _ vs y (hy y List.mem_cons_self)]
      exact ih τ fun z hz => hy z (List.mem_cons_of_mem _ hz)
  exact aux vs σ fun _ h => h
def tPuts (is : List Nat) : TGs := fun vs σ H Q => ∃ G0 H0 σ0 ρ0 G ρ svs ρ', Ext G0 H0 σ0 ρ0 G H σ ρ ∧ Rel G H σ ρ ∧ SvRs G H σ ρ H0 vs svs ∧ puts ρ is svs = some ρ' ∧
  ∀ σ', Ext G0 H0 σ0 ρ0 G H σ' ρ' → Rel G H σ' ρ' → (∀ ws : List Nat, (∀ j ∈ is, j ∈ ws) → L2.wipe σ' ws = L2.wipe σ ws) → Q σ' H
def slotsT : Tg → List Nat
  | .one j => [j]
  | .many is => is
def tTg (t : Tg) : TG := fun v σ H Q => ∃ G ρ dd ρ', Rel G H σ ρ ∧ Dr G v dd ∧ bindT t dd ρ = some ρ' ∧
  ∀ σ', Ext G H σ ρ G H σ' ρ' → Rel G H σ' ρ' → (∀ ws : List Nat, (∀ j ∈ slotsT t, j ∈ ws) → L2.wipe σ' ws = L2.wipe σ ws) → Q σ' H
theorem PGs.le {X : Cx} {es : List Expr} {t t' : TGs} (h : PGs X es t) (k : ∀ v σ H Q, t' v σ H Q → t v σ H Q) : PGs X es t' := ⟨fun pins s σ H vs us Q I r q => h.run pins s σ H vs us Q I r (k vs σ H Q q)⟩
section
variable {X : Cx} {c : FT} {pos : Pos}
theorem g_nil : PGs X [] (tPuts []) := PGs.le pgs_nil fun vs σ H Q ⟨G0, H0, σ0, ρ0, G, ρ, svs, ρ', E, R, S, e, q⟩ => by
  cases S with
  | nil => cases e; exact ⟨rfl, q σ E R fun _ _ => rfl⟩
  | cons _ _ _ => cases e
theorem g_cons {e : Expr} {es : List Expr} {j : Nat} {is : List Nat} (h1 : PG X e (gName j)) (h2 : PGs X es (tPuts is)) (hs : (assignEach (e :: es) X.env).map (·.2) = assign e X.env :: (assignEach es X.env).map (·.2)) :
    PGs X (e :: es) (tPuts (j :: is)) := PGs.le (pgs_cons h1 h2 hs) fun vs σ H Q ⟨G0, H0, σ0, ρ0, G, ρ, svs, ρ', E, R, S, e, q⟩ => by
  cases S with
  | nil => cases e
  | @cons v sv vs svs S a r =>
    have e : (match put ρ j sv with | some ρ1 => puts ρ1 is svs | none => none) = some ρ' := e
    cases e1 : put ρ j sv with
    | none => rw [e1] at e; cases e
    | some ρ1 =>
      rw [e1] at e
      obtain ⟨E1, R1, hot0⟩ := put_ok E R S.toT e1
      exact ⟨v, vs, rfl, G0, H0, σ0, ρ0, G, ρ1, svs, ρ', E1, R1, SvRs.next hot0 a r, e, fun σ' E2 R2 w => q σ' E2 R2 fun ws hw => by
        rw [w ws (fun z hz => hw z (List.mem_cons_of_mem _ hz)), wipe_set _ _ _ _ (hw j List.mem_cons_self)]⟩
theorem g_one {e : Expr} {j : Nat} (h : PG X e (gName j)) : PG X e (tTg (.one j)) := PG.le h fun v σ H Q ⟨G, ρ, dd, ρ', R, Dv, e, q⟩ => by
  obtain ⟨E1, R1, _⟩ := put_ok (H0 := H) Ext.refl R (.val Dv) (show put ρ j (.val dd) = some ρ' from e)
  exact q _ E1 R1 fun ws hw => wipe_set _ _ _ _ (hw j List.mem_cons_self)
theorem g_many {es : List Expr} {k : Nat} {is : List Nat} (hc : X.calm = true) (h : PGs X es (tPuts is)) (hn : (assignEach es X.env).length = is.length) (hst : (assignEach es X.env).findIdx? (·.1) = none) :
    PG X (.Tuple es k pos) (tTg (.many is)) := PG.le (pg_tup hc h hn hst) fun v σ H Q ⟨G, ρ, dd, ρ', R, Dv, e, q⟩ => by
  have len : ∀ (is : List Nat) (svs : List SV) (ρ ρ' : Rho), puts ρ is svs = some ρ' → is.length = svs.length := by
    intro is
    induction is with
    | nil => intro svs ρ ρ' h; cases svs with | nil => rfl | cons _ _ => cases h
    | cons x xs ih =>
      intro svs ρ ρ' h
      cases svs with
      | nil => cases h
      | cons y ys =>
        have h : (match put ρ x y with | some ρ1 => puts ρ1 xs ys | none => none) = some ρ' := h
        cases e1 : put ρ x y with
        | none => rw [e1] at h; cases h
        | some ρ1 => rw [e1] at h; rw [List.length_cons, List.length_cons, ih ys ρ1 ρ' h]
  have go : ∀ (a : Addr) (xs : List V) (ds : List D), v = .ref a → SqT X.K H a xs → Drs G xs ds → puts ρ is (ds.map .val) = some ρ' → _ := fun a xs ds hv ha ra e => by
    have hl := len _ _ _ _ e
    rw [List.length_map] at hl
    exact (⟨a, xs, hv, ha, by rw [ra.length, hl], G, H, σ, ρ, G, ρ, ds.map .val, ρ', Ext.refl, R, SvRs.vals ra, e, fun σ' E2 R2 w => q σ' E2 R2 w⟩ : gTup X.K is.length (tPuts is) v σ H Q)
  cases Dv with
  | @tup a xs ds ha ra => exact go a xs ds rfl (ha.mono R.le).sq ra e
  | @pr a xs ds ha ra => exact go a xs ds rfl (SqT.of (R.le _ _ ha)) ra e
  | _ => cases e

/-! ### comprehensions -/
def tK (c : FT) (e : E) : TT := fun σ H Q => ∃ G ρ b ρ', Rel G H σ ρ ∧ cnd ρ e (ev c e ρ) = some (b, ρ') ∧ ∀ H' G', Ext G H σ ρ G' H' σ ρ' → Rel G' H' σ ρ' → Q b H'
theorem PTs.le {X : Cx} {es : List Expr} {t t' : TT} (h : PTs X es t) (k : ∀ σ H Q, t' σ H Q → t σ H Q) : PTs X es t' := ⟨fun pins s σ H Q I q => h.run pins s σ H Q I (k σ H Q q)⟩
theorem k_none {e : E} (h : isNil e = true) : PTs X [] (tK c e) := PTs.le pts_nil fun σ H Q ⟨G, ρ, b, ρ', R, e0, q⟩ => by
  unfold cnd at e0
  rw [h] at e0
  cases e0
  exact q H G Ext.refl R
theorem k_some {e : E} {e1 : Expr} (hn : isNil e = false) (h : PT X e1 (tT c e)) : PTs X [e1] (tK c e) := PTs.le (pts_one h) fun σ H Q ⟨G, ρ, b, ρ', R, e0, q⟩ => by
  unfold cnd at e0
  rw [hn] at e0
  obtain ⟨sv, ρ1, k, e1, z1, e0⟩ := bt_some e0
  cases e0
  exact ⟨G, ρ, sv, b, _, R, e1, z1, q⟩
theorem wipeR_at {ρ : Rho} {j : Nat} : ∀ {vs : List Nat}, j ∉ vs → (wipe ρ vs)[j]? = ρ[j]?
  | [], _ => rfl
  | x :: xs, h => by
    unfold wipe
    rw [List.getElem?_set_ne (fun z => h (by rw [z]; exact List.mem_cons_self))]
    exact wipeR_at fun z => h (List.mem_cons_of_mem _ z)
theorem wipeR_len (ρ : Rho) : ∀ vs : List Nat, (wipe ρ vs).length = ρ.length
  | [] => rfl
  | x :: xs => by unfold wipe; rw [List.length_set, wipeR_len ρ xs]
theorem wipeR_in {ρ : Rho} {j : Nat} {sv : SV} : ∀ {vs : List Nat}, j ∈ vs → (wipe ρ vs)[j]? = some sv → sv = .un
  | [], h, _ => nomatch h
  | x :: xs, h, e => by
    unfold wipe at e
    rcases set_at e with ⟨_, h2⟩ | ⟨hne, e2⟩
    · exact h2
    · rcases List.mem_cons.mp h with h | h
      · exact absurd h hne
      · exact wipeR_in h e2
theorem backR_len (ρ0 ρ : Rho) : ∀ vs : List Nat, (back ρ0 ρ vs).length = ρ.length
  | [] => rfl
  | x :: xs => by unfold back; rw [List.length_set, backR_len ρ0 ρ xs]
theorem backR_out {ρ0 ρ : Rho} {j : Nat} : ∀ {vs : List Nat}, j ∉ vs → (back ρ0 ρ vs)[j]? = ρ[j]?
  | [], _ => rfl
  | x :: xs, h => by
    unfold back
    rw [List.getElem?_set_ne (fun z => h (by rw [z]; exact List.mem_cons_self))]
    exact backR_out fun z => h (List.mem_cons_of_mem _ z)
/-- a slot behind a comprehension: the rows of a list of lists are let go -/
def ung : SV → SV
  | .gho _ => .un
  | .oll _ _ => .un
  | x => x
theorem ung_hot {w sv : SV} (h : sv = ung w) (hs : hot sv = true) : w = sv ∧ tied sv = false := by
  cases w <;> first | (subst h; exact ⟨rfl, rfl⟩) | (subst h; cases hs)
theorem lnt_ung {w : SV} {b : Nat} (h : lnt w = some b) : (some (ung w)).bind lnt = some b := by
  cases w <;> first | exact h | cases h
theorem ung_tied {w : SV} : tied (ung w) = false := by cases w <;> rfl
theorem backR_in {ρ0 ρ : Rho} {j : Nat} {sv : SV} (hl : ρ.length = ρ0.length) : ∀ {vs : List Nat}, j ∈ vs → (back ρ0 ρ vs)[j]? = some sv → ∃ w, ρ0[j]? = some w ∧ sv = ung w
  | [], h, _ => nomatch h
  | x :: xs, h, e => by
    unfold back at e
    have hj : j < ρ0.length := by
      have q := (List.getElem?_eq_some_iff.mp e).1
      rw [List.length_set, backR_len, hl] at q
      exact q
    rcases set_at e with ⟨rfl, h2⟩ | ⟨hne, e2⟩
    · subst h2
      refine ⟨_, List.getElem?_eq_getElem hj, ?_⟩
      unfold rd
      rw [List.getD_eq_getElem?_getD, List.getElem?_eq_getElem hj]
      show _ = ung ρ0[j]
      unfold ung
      show (match ρ0[j] with | .gho _ => SV.un | .oll _ _ => SV.un | x => x) = _
      cases ρ0[j] <;> rfl
    · rcases List.mem_cons.mp h with h | h
      · exact absurd h hne
      · exact backR_in hl h e2
theorem hot_wipe {σ : St} {ρ : Rho} {vs : List Nat} {b : Addr} (h : HotAt (L2.wipe σ vs) (wipe ρ vs) b) : ∃ j sv, j ∉ vs ∧ σ[j]? = some (some (.ref b)) ∧ ρ[j]? = some sv ∧ hot sv = true := by
  obtain ⟨j, sv, h1, h2, h3⟩ := h
  by_cases hj : j ∈ vs
  · rw [wipeR_in hj h2] at h3; cases h3
  · rw [wipeR_at hj] at h2
    rw [wipe_out hj] at h1
    exact ⟨j, sv, hj, h1, h2, h3⟩
theorem Rel.wipe {G H : Hp} {σ : St} {ρ : Rho} (R : Rel G H σ ρ) (vs : List Nat) : Rel G H (L2.wipe σ vs) (DP.wipe ρ vs) := by
  refine ⟨R.le, by rw [wipe_length, wipeR_len]; exact R.len, fun j o sv h1 h2 => ?_, fun j k b w w' k1 k2 k3 l1 l2 l3 => ?_, fun j lo n h => ?_⟩
  · by_cases hj : j ∈ vs
    · rw [wipeR_in hj h2]; exact .un _
    · rw [wipeR_at hj] at h2
      rw [wipe_out hj] at h1
      exact R.slot j o sv h1 h2
  · have hj : j ∉ vs := fun z => by rw [wipeR_in z k2] at k3; cases k3
    have hk : k ∉ vs := fun z => by rw [wipeR_in z l2] at l3; cases l3
    rw [wipeR_at hj] at k2
    rw [wipe_out hj] at k1
    rw [wipeR_at hk] at l2
    rw [wipe_out hk] at l1
    exact R.sep j k b w w' k1 k2 k3 l1 l2 l3
  · have hj : j ∉ vs := fun z => by have := wipeR_in z h; cases this
    rw [wipeR_at hj] at h
    obtain ⟨a, xs, t1, t2, t3, t4⟩ := R.tie j lo n h
    refine ⟨a, xs, by rw [wipe_out hj]; exact t1, t2, t3, fun k ds hk hg => ?_⟩
    have hk' : lo + k ∉ vs := fun z => by have := wipeR_in z hg; cases this
    rw [wipeR_at hk'] at hg
    rw [wipe_out hk']
    exact t4 k ds hk hg
/-- the block's own names forgotten again, behind a turn -/
theorem Ext.wipe {G H G' H' : Hp} {σ σ' : St} {ρ ρ' : Rho} {vs : List Nat} (E : Ext G H (L2.wipe σ vs) (DP.wipe ρ vs) G' H' σ' ρ') (hw : L2.wipe σ' vs = L2.wipe σ vs) : Ext G H (L2.wipe σ vs) (DP.wipe ρ vs) G' H' (L2.wipe σ vs) (DP.wipe ρ' vs) := by
  refine ⟨E.sub, E.keep, E.cold, E.dom, fun b hb => ?_, fun k b ds k1 k2 => ?_⟩
  · rw [← hw] at hb
    obtain ⟨j, sv, hj, h1, h2, h3⟩ := hot_wipe hb
    exact E.old b ⟨j, sv, h1, h2, h3⟩
  · have hk : k ∉ vs := fun z => by
      obtain ⟨sv, e1, e2⟩ := lnt_at k2
      have := wipeR_in z e1
      rw [this] at e2
      cases e2
    obtain ⟨_, q2⟩ := E.row k b ds k1 k2
    exact ⟨k1, by rw [wipeR_at hk]; exact q2⟩
/-- behind a comprehension its own names are as they were ahead of it -/
theorem back_ok {G H G' H' : Hp} {σ : St} {ρ ρ' : Rho} {vs : List Nat} (R : Rel G H σ ρ) (E : Ext G H (L2.wipe σ vs) (DP.wipe ρ vs) G' H' (L2.wipe σ vs) ρ') (R' : Rel G' H' (L2.wipe σ vs) ρ') :
    Ext G H σ ρ G' H' σ (back ρ ρ' vs) ∧ Rel G' H' σ (back ρ ρ' vs) ∧ ∀ b, H b = none → HotAt σ (back ρ ρ' vs) b → HotAt (L2.wipe σ vs) ρ' b := by
  have hl : ρ'.length = ρ.length := by rw [← R'.len, wipe_length, R.len]
  have less : ∀ b, HotAt (L2.wipe σ vs) (DP.wipe ρ vs) b → HotAt σ ρ b := fun b h => by
    obtain ⟨j, sv, _, h1, h2, h3⟩ := hot_wipe h
    exact ⟨j, sv, h1, h2, h3⟩
  have inn : ∀ (j : Nat) (b : Addr) (sv : SV), j ∈ vs → σ[j]? = some (some (.ref b)) → ρ[j]? = some sv → hot sv = true → ¬ HotAt (L2.wipe σ vs) (DP.wipe ρ vs) b := fun j b sv hj h1 h2 h3 z => by
    obtain ⟨k, sw, hk, k1, k2, k3⟩ := hot_wipe z
    exact hk (by rw [← R.sep j k b sv sw h1 h2 h3 k1 k2 k3]; exact hj)
  have split : ∀ b, HotAt σ (back ρ ρ' vs) b → (∃ j sv, j ∈ vs ∧ σ[j]? = some (some (.ref b)) ∧ ρ[j]? = some sv ∧ hot sv = true) ∨ HotAt (L2.wipe σ vs) ρ' b := fun b ⟨j, sv, h1, h2, h3⟩ => by
    by_cases hj : j ∈ vs
    · obtain ⟨w, w1, w2⟩ := backR_in hl hj h2
      have w3 := ung_hot w2 h3
      exact .inl ⟨j, sv, hj, h1, by rw [w1, w3.1], h3⟩
    · rw [backR_out hj] at h2
      exact .inr ⟨j, sv, by rw [wipe_out hj]; exact h1, h2, h3⟩
  refine ⟨⟨E.sub, fun b o h n => E.keep b o h fun z => n (less b z), fun b o h g n t => E.cold b o h g (fun z => n (less b z)) t, E.dom, fun b hb => ?_, fun k b ds k1 k2 => ?_⟩, ⟨R'.le, by rw [backR_len, hl]; exact R.len, fun j o sv h1 h2 => ?_, fun j k b w w' k1 k2 k3 l1 l2 l3 => ?_, fun j lo n h => ?_⟩, fun b hb z => ?_⟩
  · rcases split b hb with ⟨j, sv, hj, h1, h2, h3⟩ | hb
    · exact .inl ⟨j, sv, h1, h2, h3⟩
    · rcases E.old b hb with z | z
      · exact .inl (less b z)
      · exact .inr z
  · by_cases hk : k ∈ vs
    · obtain ⟨w0, e1, e2⟩ := lnt_at k2
      have hkl : k < (back ρ ρ' vs).length := by rw [backR_len, hl]; exact (List.getElem?_eq_some_iff.mp e1).1
      obtain ⟨w, w1, w2⟩ := backR_in hl hk (List.getElem?_eq_getElem hkl)
      rw [e1] at w1
      cases w1
      exact ⟨k1, by rw [List.getElem?_eq_getElem hkl, w2]; exact lnt_ung e2⟩
    · obtain ⟨_, q⟩ := E.row k b ds (by rw [wipe_out hk]; exact k1) (by rw [wipeR_at hk]; exact k2)
      exact ⟨k1, by rw [backR_out hk]; exact q⟩
  · by_cases hj : j ∈ vs
    · obtain ⟨w, e, w2⟩ := backR_in hl hj h2
      have q := R.slot j o w h1 e
      subst w2
      cases q with
      | un => exact .un _
      | val q => exact .val (q.mono E.sub)
      | own x1 x2 x3 => exact .own (E.keep _ _ x1 (inn j _ _ hj h1 e rfl)) (E.cold _ _ x1 x2 (inn j _ _ hj h1 e rfl) nt_lst) (x3.mono E.sub)
      | row x1 x2 x3 => exact .row (E.keep _ _ x1 (inn j _ _ hj h1 e rfl)) (E.cold _ _ x1 x2 (inn j _ _ hj h1 e rfl) nt_lst) (x3.mono E.sub)
      | dct x1 x2 x3 => exact .dct (E.keep _ _ x1 (inn j _ _ hj h1 e rfl)) (E.cold _ _ x1 x2 (inn j _ _ hj h1 e rfl) nt_dT) (x3.mono E.sub)
      | rdc x1 x2 x3 => exact .rdc (E.keep _ _ x1 (inn j _ _ hj h1 e rfl)) (E.cold _ _ x1 x2 (inn j _ _ hj h1 e rfl) nt_dT) (x3.mono E.sub)
      | obj x1 x2 x3 => exact .obj (E.keep _ _ x1 (inn j _ _ hj h1 e rfl)) (E.cold _ _ x1 x2 (inn j _ _ hj h1 e rfl) nt_ins) (x3.mono E.sub)
      | dcf x1 x2 => exact .dcf (E.sub _ _ x1) (x2.mono E.sub)
      | dk x1 x2 x3 => exact .dk (E.keep _ _ x1 (inn j _ _ hj h1 e rfl)) (E.cold _ _ x1 x2 (inn j _ _ hj h1 e rfl) nt_dK) (x3.mono E.sub)
      | gho _ _ _ => exact .un _
      | oll _ _ _ => exact .un _
    · rw [backR_out hj] at h2
      exact R'.slot j o sv (by rw [wipe_out hj]; exact h1) h2
  · have mixed : ∀ (j k : Nat) (w w' : SV), j ∈ vs → k ∉ vs → σ[j]? = some (some (.ref b)) → ρ[j]? = some w → hot w = true → σ[k]? = some (some (.ref b)) → ρ'[k]? = some w' → hot w' = true → False := fun j k w w' hj hk h1 h2 h3 h4 h5 h6 => by
      rcases E.old b ⟨k, w', by rw [wipe_out hk]; exact h4, h5, h6⟩ with z | z
      · exact inn j b w hj h1 h2 h3 z
      · obtain ⟨_, q, _⟩ := R.hotH ⟨j, w, h1, h2, h3⟩
        rw [z] at q; cases q
    by_cases hj : j ∈ vs
    · obtain ⟨u, u1, u2⟩ := backR_in hl hj k2
      have e : ρ[j]? = some w := by rw [u1, (ung_hot u2 k3).1]
      by_cases hk : k ∈ vs
      · obtain ⟨u', u3, u4⟩ := backR_in hl hk l2
        exact R.sep j k b w w' k1 e k3 l1 (by rw [u3, (ung_hot u4 l3).1]) l3
      · rw [backR_out hk] at l2
        exact (mixed j k w w' hj hk k1 e k3 l1 l2 l3).elim
    · rw [backR_out hj] at k2
      by_cases hk : k ∈ vs
      · obtain ⟨u', u3, u4⟩ := backR_in hl hk l2
        exact (mixed k j w' w hk hj l1 (by rw [u3, (ung_hot u4 l3).1]) l3 k1 k2 k3).elim
      · rw [backR_out hk] at l2
        exact R'.sep j k b w w' (by rw [wipe_out hj]; exact k1) k2 k3 (by rw [wipe_out hk]; exact l1) l2 l3
  · have out : ∀ {k : Nat} {sv : SV}, tied sv = true → (back ρ ρ' vs)[k]? = some sv → k ∉ vs := fun {k sv} ht hk z => by
      obtain ⟨u, _, u2⟩ := backR_in hl z hk
      rw [u2, ung_tied] at ht
      cases ht
    have hj := out rfl h
    rw [backR_out hj] at h
    obtain ⟨a, xs, t1, t2, t3, t4⟩ := R'.tie j lo n h
    rw [wipe_out hj] at t1
    refine ⟨a, xs, t1, t2, t3, fun k ds hk hg => ?_⟩
    have hk' := out rfl hg
    rw [backR_out hk'] at hg
    have := t4 k ds hk hg
    rw [wipe_out hk'] at this
    exact this
  · rcases split b z with ⟨j, sv, hj, h1, h2, h3⟩ | z
    · obtain ⟨_, q, _⟩ := R.hotH ⟨j, sv, h1, h2, h3⟩
      rw [hb] at q; cases q
    · exact z
/-- a list under way, that no name holds and nothing frozen leans on -/
theorem Rel.side {G H : Hp} {σ : St} {ρ : Rho} (R : Rel G H σ ρ) {p : Addr} {o : HO} (hg : G p = none) (hn : ¬ HotAt σ ρ p) : Rel G (upd H p o) σ ρ :=
  R.grow (Same.refl _) (fun b u hb => by rw [upd_ne (ne_of_none hb hg)]; exact R.le b u hb) fun b xs z h => ⟨by rw [upd_ne (fun e => hn (by rw [← e]; exact z))]; exact h, R.hotG z⟩
theorem Ext.side {G0 H0 G H : Hp} {σ0 σ : St} {ρ0 ρ : Rho} (E : Ext G0 H0 σ0 ρ0 G H σ ρ) {p : Addr} {o : HO} (hp : H0 p = none) : Ext G0 H0 σ0 ρ0 G (upd H p o) σ ρ :=
  ⟨E.sub, fun b u hb n => by rw [upd_ne (ne_of_none hb hp)]; exact E.keep b u hb n, E.cold, fun b hb => E.dom b (by
    by_cases e : b = p
    · subst e; rw [upd_same] at hb; cases hb
    · rw [upd_ne e] at hb; exact hb), E.old, E.row⟩
theorem comp_rd {el it cond : E} {t : Tg} {vs : List Nat} (hts : ∀ j ∈ slotsT t, j ∈ vs) {σ : St} {H : Hp} {Q : VK} (h : tE c (.comp el it t cond vs) σ H Q) : tLc (tI c it) (tTg t) (tK c cond) (tD c el) vs σ H Q := by
  obtain ⟨G, ρ, sv, ρ', R, e, q⟩ := h
  unfold ev at e
  obtain ⟨xs, ρ1, e1, e⟩ := bd_some e
  obtain ⟨ys, ρ6, e2, e⟩ := bd_some e
  obtain ⟨hz, e⟩ := ite_some e
  cases e
  refine ⟨G, ρ, xs, ρ1, R, e1, fun J H1 G1 E1 R1 IR p np => ?_⟩
  -- the invariant
  refine ⟨fun i m H2 => m = xs.length - i ∧ i ≤ xs.length ∧ ∃ G2 ρ2 acc ads zs, Ext G1 H1 (L2.wipe σ vs) (wipe ρ1 vs) G2 H2 (L2.wipe σ vs) ρ2 ∧ Rel G2 H2 (L2.wipe σ vs) ρ2 ∧ H2 p = some (.lst acc) ∧ G2 p = none ∧ ¬ HotAt (L2.wipe σ vs) ρ2 p ∧ Drs G2 acc ads ∧
    compL (fun x ρ2 => ob (bindT t x ρ2) fun ρ3 => bd (cnd ρ3 cond (ev c cond ρ3)) fun k ρ4 => if k = true then bz (ev c el ρ4) fun y ρ5 => some ([y], wipe ρ5 vs) else some ([], wipe ρ4 vs)) (xs.drop i) ρ2 = some (zs, ρ6) ∧ ys = ads ++ zs, ⟨_, rfl, Nat.zero_le _, G1, wipe ρ1 vs, [], [], ys, ?_, ?_, upd_same, ?_, ?_, .nil, e2, rfl⟩, ?_⟩
  · exact Ext.side Ext.refl np
  · exact (R1.wipe vs).side (R1.new np).2 (fun z => by obtain ⟨_, w, _⟩ := (R1.wipe vs).hotH z; rw [np] at w; cases w)
  · exact (R1.new np).2
  · exact fun z => by obtain ⟨_, w, _⟩ := (R1.wipe vs).hotH z; rw [np] at w; cases w
  · rintro i m H2 ⟨rfl, hi, G2, ρ2, acc, ads, zs, E2, R2, hp, gp, cp, da, el2, eys⟩
    have ir := IR i G2 H2 E2.sub R2.le
    by_cases hlt : i < xs.length
    · refine .inr ⟨ir.1 hlt, fun H' => ∃ m', m' < xs.length - i ∧ (m' = xs.length - (i + 1) ∧ i + 1 ≤ xs.length ∧ ∃ G2 ρ2 acc ads zs, Ext G1 H1 (L2.wipe σ vs) (wipe ρ1 vs) G2 H' (L2.wipe σ vs) ρ2 ∧ Rel G2 H' (L2.wipe σ vs) ρ2 ∧ H' p = some (.lst acc) ∧ G2 p = none ∧ ¬ HotAt (L2.wipe σ vs) ρ2 p ∧ Drs G2 acc ads ∧
        compL (fun x ρ2 => ob (bindT t x ρ2) fun ρ3 => bd (cnd ρ3 cond (ev c cond ρ3)) fun k ρ4 => if k = true then bz (ev c el ρ4) fun y ρ5 => some ([y], wipe ρ5 vs) else some ([], wipe ρ4 vs)) (xs.drop (i + 1)) ρ2 = some (zs, ρ6) ∧ ys = ads ++ zs), fun H' h => h, fun x H3 yl => ?_⟩
      have hxi : xs[i]? = some xs[i] := List.getElem?_eq_getElem hlt
      obtain ⟨G3, s1, s2, s3, cl, dx⟩ := ir.2.2 x H3 _ yl hxi
      rw [List.drop_eq_getElem_cons hlt] at el2
      unfold compL at el2
      -- the turn's answer
      cases eb : (ob (bindT t xs[i] ρ2) fun ρ3 => bd (cnd ρ3 cond (ev c cond ρ3)) fun k ρ4 => if k = true then bz (ev c el ρ4) fun y ρ5 => some ([y], wipe ρ5 vs) else some ([], wipe ρ4 vs)) with
      | none => rw [eb] at el2; cases el2
      | some pr =>
        obtain ⟨y1, ρ7⟩ := pr
        rw [eb] at el2
        obtain ⟨ρ3, e3, eb⟩ := ob_some eb
        obtain ⟨k, ρ4, e4, eb⟩ := bd_some eb
        have R3 : Rel G3 H3 (L2.wipe σ vs) ρ2 := R2.grow s1 s2 fun b ys z h => ⟨s3 _ _ h, cl b _ h (R2.hotG z) (R2.ntH z h)⟩
        have E3 : Ext G2 H2 (L2.wipe σ vs) ρ2 G3 H3 (L2.wipe σ vs) ρ2 := ⟨s1, fun b o h _ => s3 b o h, fun b o h g _ => cl b o h g, fun b h => s3.free h, fun _ h => .inl h, fun _ _ _ h1 h2 => ⟨h1, h2⟩⟩
        refine ⟨G3, ρ2, xs[i], ρ3, R3, dx, e3, fun σ2 E4 R4 w => ⟨?_, G3, ρ3, k, ρ4, R4, e4, fun H5 G5 E5 R5 => ?_⟩⟩
        · rw [w vs hts]; exact wipe_twice σ vs
        have hw : L2.wipe σ2 vs = L2.wipe σ vs := by rw [w vs hts]; exact wipe_twice σ vs
        have E25 := (E3.trans E4).trans E5
        have hp5 : H5 p = some (.lst acc) := E25.keep _ _ hp cp
        have gp5 : G5 p = none := E25.cold _ _ hp gp cp nt_lst
        have cp5 : ¬ HotAt σ2 ρ4 p := E25.cool hp cp
        cases k with
        | true =>
          rw [if_pos rfl] at eb
          show tD c el σ2 H5 _
          obtain ⟨svy, ρ5, dy, e5, z5, eb⟩ := bz_some eb
          cases eb
          refine ⟨G5, ρ4, svy, dy, ρ5, R5, e5, z5, fun y H6 G6 E6 R6 D6 => ?_⟩
          have hp6 : H6 p = some (.lst acc) := E6.keep _ _ hp5 cp5
          have gp6 : G6 p = none := E6.cold _ _ hp5 gp5 cp5 nt_lst
          have cp6 : ¬ HotAt σ2 ρ5 p := E6.cool hp5 cp5
          have E26 := E25.trans E6
          have Ew : Ext G1 H1 (L2.wipe σ vs) (wipe ρ1 vs) G6 H6 (L2.wipe σ vs) (wipe ρ5 vs) := Ext.wipe (E2.trans E26) hw
          have Rw : Rel G6 H6 (L2.wipe σ vs) (wipe ρ5 vs) := by have := R6.wipe vs; rw [hw] at this; exact this
          have cw : ¬ HotAt (L2.wipe σ vs) (wipe ρ5 vs) p := fun z => by
            rw [← hw] at z
            obtain ⟨j, w2, _, h1, h2, h3⟩ := hot_wipe z
            exact cp6 ⟨j, w2, h1, h2, h3⟩
          cases er : compL (fun x ρ2 => ob (bindT t x ρ2) fun ρ3 => bd (cnd ρ3 cond (ev c cond ρ3)) fun k ρ4 => if k = true then bz (ev c el ρ4) fun y ρ5 => some ([y], wipe ρ5 vs) else some ([], wipe ρ4 vs)) (xs.drop (i + 1)) (wipe ρ5 vs) with
          | none => simp only [er] at el2; cases el2
          | some pr =>
            obtain ⟨z2, ρ8⟩ := pr
            simp only [er] at el2
            cases el2
            have hys : ys = (ads ++ [dy]) ++ z2 := by rw [eys, List.append_assoc]
            have hlen := okL_le hz
            have hacc := da.length
            rw [hys] at hlen
            rw [List.length_append, List.length_append] at hlen
            refine ⟨acc, hp6, by omega, xs.length - (i + 1), by omega, rfl, hlt, G6, wipe ρ5 vs, acc ++ [y], ads ++ [dy], z2, Ew.side np, Rw.side gp6 cw, upd_same, gp6, cw, (da.mono E26.sub).append (.cons D6 .nil), er, hys⟩
        | false =>
          rw [if_neg Bool.false_ne_true] at eb
          show ∃ m', _
          cases eb
          have Ew : Ext G1 H1 (L2.wipe σ vs) (wipe ρ1 vs) G5 H5 (L2.wipe σ vs) (wipe ρ4 vs) := Ext.wipe (E2.trans E25) hw
          have Rw : Rel G5 H5 (L2.wipe σ vs) (wipe ρ4 vs) := by have := R5.wipe vs; rw [hw] at this; exact this
          have cw : ¬ HotAt (L2.wipe σ vs) (wipe ρ4 vs) p := fun z => by
            rw [← hw] at z
            obtain ⟨j, w2, _, h1, h2, h3⟩ := hot_wipe z
            exact cp5 ⟨j, w2, h1, h2, h3⟩
          cases er : compL (fun x ρ2 => ob (bindT t x ρ2) fun ρ3 => bd (cnd ρ3 cond (ev c cond ρ3)) fun k ρ4 => if k = true then bz (ev c el ρ4) fun y ρ5 => some ([y], wipe ρ5 vs) else some ([], wipe ρ4 vs)) (xs.drop (i + 1)) (wipe ρ4 vs) with
          | none => simp only [er] at el2; cases el2
          | some pr =>
            obtain ⟨z2, ρ8⟩ := pr
            simp only [er] at el2
            cases el2
            exact ⟨xs.length - (i + 1), by omega, rfl, hlt, G5, wipe ρ4 vs, acc, ads, z2, Ew, Rw, hp5, gp5, cw, da.mono E25.sub, er, by rw [eys]; rfl⟩
    · have ei : i = xs.length := by omega
      subst ei
      rw [List.drop_length] at el2
      unfold compL at el2
      cases el2
      rw [List.append_nil] at eys
      subst eys
      obtain ⟨Eb, Rb, hb⟩ := back_ok R1 E2 R2
      exact .inl ⟨ir.2.1 rfl, q _ H2 G2 (E1.trans Eb) Rb (.own hp gp da (E1.dom p np) fun z => cp (hb p np z))⟩
/-! ### comprehensions of two clauses -/
theorem wipe_sub (σ : St) {vs ys : List Nat} (h : ∀ y ∈ ys, y ∈ vs) : L2.wipe (L2.wipe σ ys) vs = L2.wipe σ vs := by
  induction ys generalizing σ with
  | nil => rfl
  | cons y ys ih =>
    show L2.wipe ((L2.wipe σ ys).set y none) vs = _
    rw [wipe_set _ _ vs y (h y List.mem_cons_self)]
    exact ih σ fun z hz => h z (List.mem_cons_of_mem _ hz)
theorem Ext.wipe2 {G H G' H' : Hp} {σ σ' : St} {ρ ρ' : Rho} {vs ws : List Nat} (E : Ext G H (L2.wipe σ vs) (DP.wipe ρ vs) G' H' σ' ρ') (hs : ∀ y ∈ ws, y ∈ vs) : Ext G H (L2.wipe σ vs) (DP.wipe ρ vs) G' H' (L2.wipe σ' ws) (DP.wipe ρ' ws) := by
  refine ⟨E.sub, E.keep, E.cold, E.dom, fun b hb => ?_, fun k b ds k1 k2 => ?_⟩
  · obtain ⟨j, sv, hj, h1, h2, h3⟩ := hot_wipe hb
    exact E.old b ⟨j, sv, h1, h2, h3⟩
  · have hk : k ∉ vs := fun z => by
      obtain ⟨sv, e1, e2⟩ := lnt_at k2
      have := wipeR_in z e1
      rw [this] at e2
      cases e2
    have hk2 : k ∉ ws := fun z => hk (hs k z)
    obtain ⟨q1, q2⟩ := E.row k b ds k1 k2
    exact ⟨by rw [wipe_out hk2]; exact q1, by rw [wipeR_at hk2]; exact q2⟩
theorem cool_wipe {σ : St} {ρ : Rho} {vs : List Nat} {p : Addr} (h : ¬ HotAt σ ρ p) : ¬ HotAt (L2.wipe σ vs) (wipe ρ vs) p := fun z => by
  obtain ⟨j, w, _, h1, h2, h3⟩ := hot_wipe z
  exact h ⟨j, w, h1, h2, h3⟩
/-- a turn of a walk -/
theorem Ext.turn {G H G' H' : Hp} {σ : St} {ρ : Rho} (s1 : Same G G') (s3 : Same H H') (cl : ∀ b o, H b = some o → G b = none → NT o → G' b = none) : Ext G H σ ρ G' H' σ ρ :=
  ⟨s1, fun b o h _ => s3 b o h, fun b o h g _ => cl b o h g, fun b h => s3.free h, fun _ h => .inl h, fun _ _ _ h1 h2 => ⟨h1, h2⟩⟩
theorem Rel.turn {G H G' H' : Hp} {σ : St} {ρ : Rho} (R : Rel G H σ ρ) (s1 : Same G G') (s2 : Same G' H') (s3 : Same H H') (cl : ∀ b o, H b = some o → G b = none → NT o → G' b = none) : Rel G' H' σ ρ :=
  R.grow s1 s2 fun b ys z h => ⟨s3 _ _ h, cl b _ h (R.hotG z) (R.ntH z h)⟩
theorem compL_cons {f : D → Rho → Option (List D × Rho)} {x : D} {xs : List D} {ρ ρ' : Rho} {zs : List D} (h : compL f (x :: xs) ρ = some (zs, ρ')) : ∃ y1 ρ1 z2, f x ρ = some (y1, ρ1) ∧ compL f xs ρ1 = some (z2, ρ') ∧ zs = y1 ++ z2 := by
  unfold compL at h
  cases e1 : f x ρ with
  | none => rw [e1] at h; cases h
  | some p =>
    obtain ⟨y1, ρ1⟩ := p
    rw [e1] at h
    cases e2 : compL f xs ρ1 with
    | none => simp only [e2] at h; cases h
    | some p2 =>
      obtain ⟨z2, ρ2⟩ := p2
      simp only [e2] at h
      cases h
      exact ⟨y1, ρ1, z2, rfl, e2, rfl⟩
theorem comp2_rd {el it cond it2 cond2 : E} {t t2 : Tg} {vs vs2 : List Nat} (hts : ∀ j ∈ slotsT t, j ∈ vs) (hts2 : ∀ j ∈ slotsT t2, j ∈ vs2) (hvv : ∀ j ∈ vs2, j ∈ vs) {σ : St} {H : Hp} {Q : VK} (h : tE c (.comp2 el it t cond vs it2 t2 cond2 vs2) σ H Q) :
    tLc2 (tI c it) (tTg t) (tK c cond) (tI c it2) (tTg t2) (tK c cond2) (tD c el) vs vs2 σ H Q := by
  obtain ⟨G, ρ, sv, ρ', R, e, q⟩ := h
  unfold ev at e
  obtain ⟨xs, ρ1, e1, e⟩ := bd_some e
  obtain ⟨ys, ρ6, e2, e⟩ := bd_some e
  obtain ⟨hz, e⟩ := ite_some e
  cases e
  have e2 : compL (outT c t cond vs it2 t2 cond2 el vs2) xs (wipe ρ1 vs) = some (ys, ρ6) := e2
  refine ⟨G, ρ, xs, ρ1, R, e1, fun J H1 G1 E1 R1 IR p np => ?_⟩
  refine ⟨fun i m H2 => m = xs.length - i ∧ i ≤ xs.length ∧ ∃ G2 ρ2 acc ads zs, Ext G1 H1 (L2.wipe σ vs) (wipe ρ1 vs) G2 H2 (L2.wipe σ vs) ρ2 ∧ Rel G2 H2 (L2.wipe σ vs) ρ2 ∧ H2 p = some (.lst acc) ∧ G2 p = none ∧ ¬ HotAt (L2.wipe σ vs) ρ2 p ∧ Drs G2 acc ads ∧
    compL (outT c t cond vs it2 t2 cond2 el vs2) (xs.drop i) ρ2 = some (zs, ρ6) ∧ ys = ads ++ zs, ⟨_, rfl, Nat.zero_le _, G1, wipe ρ1 vs, [], [], ys, ?_, ?_, upd_same, ?_, ?_, .nil, e2, rfl⟩, ?_⟩
  · exact Ext.side Ext.refl np
  · exact (R1.wipe vs).side (R1.new np).2 (fun z => by obtain ⟨_, w, _⟩ := (R1.wipe vs).hotH z; rw [np] at w; cases w)
  · exact (R1.new np).2
  · exact fun z => by obtain ⟨_, w, _⟩ := (R1.wipe vs).hotH z; rw [np] at w; cases w
  · rintro i m H2 ⟨rfl, hi, G2, ρ2, acc, ads, zs, E2, R2, hp, gp, cp, da, el2, eys⟩
    have ir := IR i G2 H2 E2.sub R2.le
    by_cases hlt : i < xs.length
    · refine .inr ⟨ir.1 hlt, fun H' => ∃ m', m' < xs.length - i ∧ (m' = xs.length - (i + 1) ∧ i + 1 ≤ xs.length ∧ ∃ G2 ρ2 acc ads zs, Ext G1 H1 (L2.wipe σ vs) (wipe ρ1 vs) G2 H' (L2.wipe σ vs) ρ2 ∧ Rel G2 H' (L2.wipe σ vs) ρ2 ∧ H' p = some (.lst acc) ∧ G2 p = none ∧ ¬ HotAt (L2.wipe σ vs) ρ2 p ∧ Drs G2 acc ads ∧
        compL (outT c t cond vs it2 t2 cond2 el vs2) (xs.drop (i + 1)) ρ2 = some (zs, ρ6) ∧ ys = ads ++ zs), fun H' h => h, fun x H3 yl => ?_⟩
      have hxi : xs[i]? = some xs[i] := List.getElem?_eq_getElem hlt
      obtain ⟨G3, s1, s2, s3, cl, dx⟩ := ir.2.2 x H3 _ yl hxi
      rw [List.drop_eq_getElem_cons hlt] at el2
      obtain ⟨y1, ρ7, z2, eb, er, ezs⟩ := compL_cons el2
      subst ezs
      obtain ⟨ρ3, e3, eb⟩ := ob_some (f := fun ρ3 => bd (cnd ρ3 cond (ev c cond ρ3)) fun k ρ4 => if k = true then bd (evi c it2 ρ4) fun xs2 ρ5 => bd (compL (inT c t2 cond2 el vs2) xs2 (wipe ρ5 vs2)) fun ys ρ9 => some (ys, wipe ρ9 vs) else some ([], wipe ρ4 vs)) eb
      obtain ⟨k, ρ4, e4, eb⟩ := bd_some eb
      have R3 : Rel G3 H3 (L2.wipe σ vs) ρ2 := R2.turn s1 s2 s3 cl
      have E3 : Ext G2 H2 (L2.wipe σ vs) ρ2 G3 H3 (L2.wipe σ vs) ρ2 := Ext.turn s1 s3 cl
      refine ⟨G3, ρ2, xs[i], ρ3, R3, dx, e3, fun σ2 E4 R4 w => ⟨?_, G3, ρ3, k, ρ4, R4, e4, fun H5 G5 E5 R5 => ?_⟩⟩
      · rw [w vs hts]; exact wipe_twice σ vs
      have hw : L2.wipe σ2 vs = L2.wipe σ vs := by rw [w vs hts]; exact wipe_twice σ vs
      have E25 := (E3.trans E4).trans E5
      have hp5 : H5 p = some (.lst acc) := E25.keep _ _ hp cp
      have gp5 : G5 p = none := E25.cold _ _ hp gp cp nt_lst
      have cp5 : ¬ HotAt σ2 ρ4 p := E25.cool hp cp
      have B5 := E2.trans E25
      cases k with
      | true =>
        rw [if_pos rfl] at eb
        show tI c it2 σ2 H5 _
        obtain ⟨xs2, ρ5, e5, eb⟩ := bd_some eb
        obtain ⟨y1', ρ9, e6, eb⟩ := bd_some eb
        cases eb
        refine ⟨G5, ρ4, xs2, ρ5, R5, e5, fun J1 H6 G6 E6 R6 IR1 => ?_⟩
        have B6 := B5.trans E6
        have hp6 : H6 p = some (.lst acc) := E6.keep _ _ hp5 cp5
        have gp6 : G6 p = none := E6.cold _ _ hp5 gp5 cp5 nt_lst
        have cp6 : ¬ HotAt σ2 ρ5 p := E6.cool hp5 cp5
        refine ⟨fun j m H7 => m = xs2.length - j ∧ j ≤ xs2.length ∧ ∃ G7 ρ8 acc1 ads1 zs1, Same G6 G7 ∧ Ext G1 H1 (L2.wipe σ vs) (wipe ρ1 vs) G7 H7 (L2.wipe σ2 vs2) ρ8 ∧ Rel G7 H7 (L2.wipe σ2 vs2) ρ8 ∧ H7 p = some (.lst acc1) ∧ G7 p = none ∧ ¬ HotAt (L2.wipe σ2 vs2) ρ8 p ∧ Drs G7 acc1 ads1 ∧
          compL (inT c t2 cond2 el vs2) (xs2.drop j) ρ8 = some (zs1, ρ9) ∧ ads ++ y1 = ads1 ++ zs1, ⟨_, rfl, Nat.zero_le _, G6, wipe ρ5 vs2, acc, ads, y1, Same.refl _, B6.wipe2 hvv, R6.wipe vs2, hp6, gp6, cool_wipe cp6, da.mono ((E25.trans E6).sub), e6, rfl⟩, ?_⟩
        rintro j m H7 ⟨rfl, hj, G7, ρ8, acc1, ads1, zs1, L7, B7, R7, hp7, gp7, cp7, da7, el7, eys7⟩
        have ir1 := IR1 j G7 H7 L7 R7.le
        by_cases hlt1 : j < xs2.length
        · refine .inr ⟨ir1.1 hlt1, fun H' => ∃ m', m' < xs2.length - j ∧ (m' = xs2.length - (j + 1) ∧ j + 1 ≤ xs2.length ∧ ∃ G7 ρ8 acc1 ads1 zs1, Same G6 G7 ∧ Ext G1 H1 (L2.wipe σ vs) (wipe ρ1 vs) G7 H' (L2.wipe σ2 vs2) ρ8 ∧ Rel G7 H' (L2.wipe σ2 vs2) ρ8 ∧ H' p = some (.lst acc1) ∧ G7 p = none ∧ ¬ HotAt (L2.wipe σ2 vs2) ρ8 p ∧ Drs G7 acc1 ads1 ∧
            compL (inT c t2 cond2 el vs2) (xs2.drop (j + 1)) ρ8 = some (zs1, ρ9) ∧ ads ++ y1 = ads1 ++ zs1), fun H' h => h, fun x8 H8 yl8 => ?_⟩
          have hxj : xs2[j]? = some xs2[j] := List.getElem?_eq_getElem hlt1
          obtain ⟨G8, s81, s82, s83, cl8, dx8⟩ := ir1.2.2 x8 H8 _ yl8 hxj
          rw [List.drop_eq_getElem_cons hlt1] at el7
          obtain ⟨y8, ρ10, z8, eb8, er8, ezs8⟩ := compL_cons el7
          subst ezs8
          obtain ⟨ρ11, e11, eb8⟩ := ob_some (f := fun ρ7 => bd (cnd ρ7 cond2 (ev c cond2 ρ7)) fun k ρ8 => if k = true then bz (ev c el ρ8) fun y ρ9 => some ([y], wipe ρ9 vs2) else some ([], wipe ρ8 vs2)) eb8
          obtain ⟨k8, ρ12, e12, eb8⟩ := bd_some eb8
          have R8 : Rel G8 H8 (L2.wipe σ2 vs2) ρ8 := R7.turn s81 s82 s83 cl8
          have E8 : Ext G7 H7 (L2.wipe σ2 vs2) ρ8 G8 H8 (L2.wipe σ2 vs2) ρ8 := Ext.turn s81 s83 cl8
          refine ⟨G8, ρ8, xs2[j], ρ11, R8, dx8, e11, fun σ3 E9 R9 w9 => ⟨?_, G8, ρ11, k8, ρ12, R9, e12, fun H10 G10 E10 R10 => ?_⟩⟩
          · rw [w9 vs2 hts2]; exact wipe_twice σ2 vs2
          have hw9 : L2.wipe σ3 vs2 = L2.wipe σ2 vs2 := by rw [w9 vs2 hts2]; exact wipe_twice σ2 vs2
          have E710 := (E8.trans E9).trans E10
          have hp10 : H10 p = some (.lst acc1) := E710.keep _ _ hp7 cp7
          have gp10 : G10 p = none := E710.cold _ _ hp7 gp7 cp7 nt_lst
          have cp10 : ¬ HotAt σ3 ρ12 p := E710.cool hp7 cp7
          have B10 := B7.trans E710
          have L10 := L7.trans E710.sub
          cases k8 with
          | true =>
            rw [if_pos rfl] at eb8
            show tD c el σ3 H10 _
            obtain ⟨svy, ρ13, dy, e13, z13, eb8⟩ := bz_some eb8
            cases eb8
            refine ⟨G10, ρ12, svy, dy, ρ13, R10, e13, z13, fun y H11 G11 E11 R11 D11 => ?_⟩
            have hp11 : H11 p = some (.lst acc1) := E11.keep _ _ hp10 cp10
            have gp11 : G11 p = none := E11.cold _ _ hp10 gp10 cp10 nt_lst
            have cp11 : ¬ HotAt σ3 ρ13 p := E11.cool hp10 cp10
            have Lw := L10.trans E11.sub
            have Bw : Ext G1 H1 (L2.wipe σ vs) (wipe ρ1 vs) G11 H11 (L2.wipe σ2 vs2) (wipe ρ13 vs2) := by have := (B10.trans E11).wipe2 hvv; rw [hw9] at this; exact this
            have Rw : Rel G11 H11 (L2.wipe σ2 vs2) (wipe ρ13 vs2) := by have := R11.wipe vs2; rw [hw9] at this; exact this
            have cw : ¬ HotAt (L2.wipe σ2 vs2) (wipe ρ13 vs2) p := by have := cool_wipe (vs := vs2) cp11; rw [hw9] at this; exact this
            have hys : ads ++ y1 = (ads1 ++ [dy]) ++ z8 := by rw [eys7, List.append_assoc]
            have hlen := okL_le hz
            have hacc := da7.length
            rw [eys, ← List.append_assoc, hys] at hlen
            rw [List.length_append, List.length_append, List.length_append] at hlen
            refine ⟨acc1, hp11, by omega, xs2.length - (j + 1), by omega, rfl, hlt1, G11, wipe ρ13 vs2, acc1 ++ [y], ads1 ++ [dy], z8, Lw, Bw.side np, Rw.side gp11 cw, upd_same, gp11, cw, (da7.mono (E710.trans E11).sub).append (.cons D11 .nil), er8, hys⟩
          | false =>
            rw [if_neg Bool.false_ne_true] at eb8
            show ∃ m', _
            cases eb8
            have Bw : Ext G1 H1 (L2.wipe σ vs) (wipe ρ1 vs) G10 H10 (L2.wipe σ2 vs2) (wipe ρ12 vs2) := by have := B10.wipe2 hvv; rw [hw9] at this; exact this
            have Rw : Rel G10 H10 (L2.wipe σ2 vs2) (wipe ρ12 vs2) := by have := R10.wipe vs2; rw [hw9] at this; exact this
            have cw : ¬ HotAt (L2.wipe σ2 vs2) (wipe ρ12 vs2) p := by have := cool_wipe (vs := vs2) cp10; rw [hw9] at this; exact this
            exact ⟨xs2.length - (j + 1), by omega, rfl, hlt1, G10, wipe ρ12 vs2, acc1, ads1, z8, L10, Bw, Rw, hp10, gp10, cw, da7.mono E710.sub, er8, by rw [eys7]; rfl⟩
        · have ej : j = xs2.length := by omega
          subst ej
          rw [List.drop_length] at el7
          unfold compL at el7
          cases el7
          rw [List.append_nil] at eys7
          have Bw : Ext G1 H1 (L2.wipe σ vs) (wipe ρ1 vs) G7 H7 (L2.wipe σ vs) (wipe ρ9 vs) := by
            have := B7.wipe2 (ws := vs) (fun _ h => h)
            rw [wipe_sub σ2 hvv, hw] at this; exact this
          have Rw : Rel G7 H7 (L2.wipe σ vs) (wipe ρ9 vs) := by have := R7.wipe vs; rw [wipe_sub σ2 hvv, hw] at this; exact this
          have cw : ¬ HotAt (L2.wipe σ vs) (wipe ρ9 vs) p := by have := cool_wipe (vs := vs) cp7; rw [wipe_sub σ2 hvv, hw] at this; exact this
          exact .inl ⟨ir1.2.1 rfl, xs.length - (i + 1), by omega, rfl, hlt, G7, wipe ρ9 vs, acc1, ads1, z2, Bw, Rw, hp7, gp7, cw, da7, er, by rw [eys, ← List.append_assoc, eys7]⟩
      | false =>
        rw [if_neg Bool.false_ne_true] at eb
        show ∃ m', _
        cases eb
        have Ew : Ext G1 H1 (L2.wipe σ vs) (wipe ρ1 vs) G5 H5 (L2.wipe σ vs) (wipe ρ4 vs) := Ext.wipe B5 hw
        have Rw : Rel G5 H5 (L2.wipe σ vs) (wipe ρ4 vs) := by have := R5.wipe vs; rw [hw] at this; exact this
        have cw : ¬ HotAt (L2.wipe σ vs) (wipe ρ4 vs) p := by have := cool_wipe (vs := vs) cp5; rw [hw] at this; exact this
        exact ⟨xs.length - (i + 1), by omega, rfl, hlt, G5, wipe ρ4 vs, acc, ads, z2, Ew, Rw, hp5, gp5, cw, da.mono E25.sub, er, by rw [eys]; rfl⟩
    · have ei : i = xs.length := by omega
      subst ei
      rw [List.drop_length] at el2
      unfold compL at el2
      cases el2
      rw [List.append_nil] at eys
      subst eys
      obtain ⟨Eb, Rb, hb⟩ := back_ok R1 E2 R2
      exact .inl ⟨ir.2.1 rfl, q _ H2 G2 (E1.trans Eb) Rb (.own hp gp da (E1.dom p np) fun z => cp (hb p np z))⟩
end
end DP

/-! dicts with ints and texts as keys; lists of lists: the rules of expressions -/
namespace DP
open PySem PySem.Spec PyProof.Rows L2
variable [CA : ClsA]

/-! ### dicts with ints and texts as keys -/
theorem slotC_at {G H : Hp} {σ : St} {ρ : Rho} {j : Nat} {kvs : List (L2.Key × D)} (R : Rel G H σ ρ) (h : slotC ρ j = some kvs) :
    ∃ a xs, σ[j]? = some (some (.ref a)) ∧ ρ[j]? = some (.dk kvs) ∧ H a = some (.dK xs) ∧ G a = none ∧ KdR G xs kvs := by
  unfold slotC at h
  cases z : rd ρ j with
  | dk es =>
    rw [z] at h
    cases h
    have z2 := rd_get z (by intro z; cases z)
    obtain ⟨o, h1, h2⟩ := R.at z2
    cases h2 with
    | dk x1 x2 x3 => exact ⟨_, _, h1, z2, x1, x2, x3⟩
  | _ => rw [z] at h; cases h
theorem kD_at {G : Hp} {y : V} {dy : D} {k : L2.Key} (h : Dr G y dy) (e : kD dy = some k) : y = kV k := by
  cases h with
  | int i => cases e; rfl
  | str x => cases e; rfl
  | _ => cases e
section
variable {X : Cx}
def rKeysK : V → List V → Hp → VK → Prop := fun x xs H Q => ∃ (a : Addr) (ys : List (L2.Key × V)), x = .ref a ∧ xs = [] ∧ H a = some (.dK ys) ∧ ∀ p, H p = none → Q (.ref p) (upd H p (viewO p a))
theorem mt_keysK : MtR X "dict.keys" rKeysK := by
  intro pins s σ H x xs v us Q I rx rxs h
  obtain ⟨a, ys, rfl, rfl, ha, q⟩ := h
  cases rx
  cases rxs
  obtain ⟨z, hd, vs, kv, o, es, ep, ho, hx, hdat, _⟩ := dk_of I.hok ha
  obtain ⟨raw, _⟩ := raw_dict ho hx hdat
  refine call_meetsIn PySem.F.slot_dict_keys raw.typeIs PySem.F.entry_dict_keys (PySem.F.args_dict_keys_1 _) (view_made hd) ⟨raw, ?_⟩
  have hf : H s.heap.objs.size = none := I.hok.fresh (Nat.le_refl _)
  exact ⟨.ref s.heap.objs.size, upd H s.heap.objs.size (viewO s.heap.objs.size a), I.laid (t' := s.toks) (fun b u e => Heap.get?_push_of_some _ e) (Nat.le_refl _) (viewO_ok ⟨_, Heap.get?_push_size _ rfl, rfl, rfl⟩), rfl, q _ hf⟩
theorem pe_keysK {e : Expr} {td : TE} {ap cp : Pos} (he : PE X e td) (hbase : attributeBase e (Str.ofString "keys") X.env (eval e X.env) = eval e X.env) (hl : (ap.endLine == cp.line) = true) : PE X (.Call (.Attribute e (Str.ofString "keys") ap) [] [] cp) (fun σ H Q => td σ H fun x H1 => rKeysK x [] H1 Q) := by
  refine ⟨fun pins s σ H Q I h => wpAny_Call_method0_late hbase hl (thn (he.run pins s σ H _ I h) fun v s1 ⟨x, H1, I1, r1, q1⟩ => ?_)⟩
  obtain ⟨a, ys, rfl, e0, ha, q⟩ := id q1
  obtain rfl : v = Value.ref a := r1
  obtain ⟨z, hd, vs, kv, o, es, ep, ho, hx, hdat, _⟩ := dk_of I1.hok ha
  obtain ⟨raw, nd⟩ := raw_dict ho hx hdat
  exact ⟨"dict", "dict.keys", PySem.F.plainAttrs_dict, PySem.F.slot_dict_keys, PySem.F.type_dict_keys, raw.typeIs, nd, Calls.callWith_builtin rfl (PySem.evalArgs_none (mt_keysK pins s1 σ H1 (.ref a) [] (.ref a) [] Q I1 rfl .nil q1))⟩
theorem pairs_ints {P : Program} {w : World} : ∀ {es : List DictEntry} {vs : List (L2.Key × Value)} {ns : List Int}, Pairs (mixKind P w) es vs → vs.map (·.1) = ns.map Sum.inl → IntsAre (es.map (·.key)) ns
  | _, _, [], .nil, _ => .nil
  | _, _, _ :: _, .nil, e => by simp at e
  | _, _, [], .cons _ _ _, e => by simp at e
  | e0 :: es, (k, v) :: vs, n :: ns, .cons h1 _ r, e => by
    have e1 : k = Sum.inl n := by simp at e; exact e.1
    have e2 : vs.map (·.1) = ns.map Sum.inl := by simp at e; simpa using e.2
    subst e1
    obtain ⟨t, et⟩ := Value.isInt_shape (k := n) (v := e0.key) h1
    rw [List.map_cons, et]
    exact .cons n t (pairs_ints r e2)
def rSortVK : List V → Hp → VK → Prop := fun vs H Q => ∃ p d xs ns, vs = [V.ref p] ∧ H p = some (viewO p d) ∧ H d = some (.dK xs) ∧ xs.map (·.1) = ns.map Sum.inl ∧
  ∀ (ns' : List Int) (q : Addr), ns'.Perm ns → ns'.Pairwise (· ≤ ·) → H q = none → Q (.ref q) (upd H q (.lst (ns'.map V.int)))
theorem cr_sortVK (hc : X.calm = true) : CallR X (.builtin "sorted") rSortVK := by
  intro pins s σ H vs us Q I r h
  obtain ⟨p, d, xs, ns, rfl, hp, hd, hk, q⟩ := h
  rw [Vals.ref1 r]
  have hv : PySem.W.KdlKeysView s.heap p d := (I.hok p _ hp).1
  obtain ⟨hlen, hsys, kvs, kv, o, es, ep, ho, hx, hdt, _, pr, _⟩ := dk_of I.hok hd
  obtain ⟨raw, _⟩ := raw_dict ho hx hdt
  have hh := I.ok.hd hc
  have n1 : es.size = kvs.length := by have := pr.length; simpa using this
  have n2 : xs.length = kvs.length := kv.length
  have nz : es.size ≤ sizeLine := by omega
  have hi : IntsAre (es.toList.map (·.key)) ns := pairs_ints pr (by rw [← kv.keys]; exact hk)
  refine Calls.call_function_entry kind_sorted plain_sorted entry_sorted (args_sorted1 _) ?_
  unfold Builtin.«sorted»; refine wpAny_bind (m := checkCount "sorted" 1 1 _) (wpAny_pure (wpAny_bind (PySem.W.kdu_collect (A := X.A.in1) (KdlSrc.rawKeys (prog := X.prog) (w := X.w) (r := p) (d := d) (es := es) (ep := ep)) hh ⟨hv, raw⟩ nz fun h' tk acc hk hacc => ?_)))
  have hl : acc.toList = es.toList.map (·.key) := by
    apply List.ext_getElem?
    intro j
    by_cases c : j < es.size
    · have hj : j < acc.size := by rw [hacc.1]; exact c
      obtain ⟨hi, e⟩ := hacc.2 j acc[j] (Array.getElem?_eq_getElem hj)
      rw [Array.getElem?_toList, Array.getElem?_eq_getElem hj, e, List.getElem?_map, Array.getElem?_toList, Array.getElem?_eq_getElem hi]; rfl
    · have c2 : es.size ≤ j := Nat.le_of_not_lt c
      rw [List.getElem?_eq_none (by rw [Array.length_toList, hacc.1]; exact c2), List.getElem?_eq_none (by rw [List.length_map, Array.length_toList]; exact c2)]
  rw [hl]
  generalize es.toList.map (·.key) = its at hi hl
  have hlen2 : its.length ≤ sizeLine := by rw [← hl, Array.length_toList, hacc.1]; exact nz
  refine wpAny_bind (wpAny_newList ?_ hlen2)
  have I1 : Inv X pins σ H { s with heap := h', toks := tk } := I.kept hk
  have hobj : (h'.push { cls := .type "list", data := .seq its.toArray }).get? h'.objs.size = some (seqObj "list" its.toArray 0) := Heap.get?_push_size _ rfl
  have old1 : ∀ b ob, h'.get? b = some ob → (h'.push { cls := .type "list", data := .seq its.toArray }).get? b = some ob ∧ b ≠ h'.objs.size := fun b ob e => ⟨Heap.get?_push_of_some _ e, Nat.ne_of_lt (Heap.lt_size e)⟩
  have hsort : ∀ E' : Value → Shared → Prop, wpAny (model X.prog X.w) X.A.in1 (call (.builtin "list.sort") [.ref h'.objs.size]) (fun _ s' => EP X pins σ Q (.ref h'.objs.size) s') E' { s with heap := h'.push { cls := .type "list", data := .seq its.toArray }, toks := tk } := by
    intro E'
    refine wpAny_call_entry PyProof.Rows.slot_list_sort ⟨_, hobj, rfl⟩ PyProof.Rows.entry_list_sort
      (SrtO.list_sort_ord SrtO.swo_int hobj hlen2 (fun h2 => SrtO.ints_sortable hi h2) fun out h1 h2 => ⟨.none, rfl, ?_⟩) (PyProof.Rows.args_list_sort _)
    obtain ⟨k1, k2, k3⟩ := SrtO.ints_out hi h1 h2
    obtain ⟨ep, he'⟩ := PyProof.Rows.sortedHeap_at (vs := its) (out := out.toArray) hobj
    have hl2 : ((out.map SrtO.iv).map V.int).length ≤ sizeLine := by
      rw [List.length_map, k2.length_eq, ← hi.length]
      exact hlen2
    have np : H h'.objs.size = none := I1.hok.fresh (Nat.le_refl _)
    refine ⟨.ref _, upd H h'.objs.size (.lst ((out.map SrtO.iv).map V.int)), I1.laid (t' := tk) (fun b ob e => ?_) (Nat.le_refl _) ⟨hl2, out, ep, vals_of_ints k1, he'⟩, rfl, q _ _ k2 k3 np⟩
    obtain ⟨e1, e2⟩ := old1 b ob e
    rw [PyProof.Rows.sortedHeap_old e2 (Heap.lt_size e1)]; exact e1
  exact wpAny_bind (wpAny_holding (wpAny_mono (hsort _) (fun _ s' x => wpAny_pure ⟨_, rfl, x⟩) fun _ _ e => e))
end
section
variable {X : Cx} {c : FT} {a b d : E} {a0 b0 d0 : Expr} {pos : Pos} {j : Nat}
theorem s_knew : PE X (.Dict [] [] pos) (tE c (.xt .knew j a b)) := PE.le pe_dnewK fun σ H Q ⟨G, ρ, sv, ρ', R, e, q⟩ => by
  unfold ev at e
  cases e
  intro p np
  have N : SvN G H (.ref p) (.dk []) (upd H p (.dK [])) := ⟨G, Same.refl _, R.le.trans (same_upd np), same_upd np, fun _ _ _ g _ => g, p, [], rfl, np, R.le.free np, upd_same, .nil⟩
  obtain ⟨G3, E3, R3, S3⟩ := fin_new R N
  exact q _ _ G3 E3 R3 S3
theorem kin_rd {σ : St} {H : Hp} {Q : VK} (h : tE c (.xt .kin j a b) σ H Q) : tDIn (tD c a) (tVar j) σ H Q := by
  obtain ⟨G, ρ, sv, ρ', R, e, q⟩ := h
  unfold ev at e
  obtain ⟨sva, ρ1, dx, e1, z1, e⟩ := bz_some e
  obtain ⟨k, e2, e⟩ := ob_some e
  obtain ⟨kvs, e3, e⟩ := ob_some e
  cases e
  refine ⟨G, ρ, sva, dx, _, R, e1, z1, fun x H1 G1 E1 R1 D1 => ?_⟩
  obtain ⟨a, xs, h1, h2, h3, h4, h5⟩ := slotC_at R1 e3
  cases kD_at D1 e2
  refine ⟨.ref a, h1, a, _, rfl, DGet.k h3, ?_⟩
  have ev : (valV xs k).isSome = (vK kvs k).isSome := by
    rcases h5.val k with ⟨e1, e2⟩ | ⟨v, d, e1, e2, _⟩ <;> rw [e1, e2] <;> rfl
  rw [ev]
  exact q _ H1 G1 E1 R1 (.val (.bl _))
theorem s_kin {k : Nat} {x : Str} {p : Pos} (hr : Room k X.A) (ha : PE X a0 (tE c a)) (hv : PE X (.Name x p) (tVar j)) : PE X (.Compare a0 [.In] [.Name x p] pos) (tE c (.xt .kin j a b)) :=
  PE.le (pe_cmp (pc_din (by have := hr.un; omega) (sD ha) hv)) fun σ H Q h => kin_rd h
theorem t_kin {k : Nat} {x : Str} {p : Pos} (hr : Room k X.A) (ha : PE X a0 (tE c a)) (hv : PE X (.Name x p) (tVar j)) : PT X (.Compare a0 [.In] [.Name x p] pos) (tT c (.xt .kin j a b)) :=
  PT.le (pt_cmp (pc_din (by have := hr.un; omega) (sD ha) hv)) fun σ H Q h => kin_rd (tT_tE h)
theorem knin_rd {σ : St} {H : Hp} {Q : VK} (h : tE c (.xt .knin j a b) σ H Q) : tDNotIn (tD c a) (tVar j) σ H Q := by
  obtain ⟨G, ρ, sv, ρ', R, e, q⟩ := h
  unfold ev at e
  obtain ⟨sva, ρ1, dx, e1, z1, e⟩ := bz_some e
  obtain ⟨k, e2, e⟩ := ob_some e
  obtain ⟨kvs, e3, e⟩ := ob_some e
  cases e
  refine ⟨G, ρ, sva, dx, _, R, e1, z1, fun x H1 G1 E1 R1 D1 => ?_⟩
  obtain ⟨a, xs, h1, h2, h3, h4, h5⟩ := slotC_at R1 e3
  cases kD_at D1 e2
  refine ⟨.ref a, h1, a, _, rfl, DGet.k h3, ?_⟩
  have ev : (valV xs k).isSome = (vK kvs k).isSome := by
    rcases h5.val k with ⟨e1, e2⟩ | ⟨v, d, e1, e2, _⟩ <;> rw [e1, e2] <;> rfl
  rw [ev]
  exact q _ H1 G1 E1 R1 (.val (.bl _))
theorem s_knin {k : Nat} {x : Str} {p : Pos} (hr : Room k X.A) (ha : PE X a0 (tE c a)) (hv : PE X (.Name x p) (tVar j)) : PE X (.Compare a0 [.NotIn] [.Name x p] pos) (tE c (.xt .knin j a b)) :=
  PE.le (pe_cmp (pc_dnotin (by have := hr.un; omega) (sD ha) hv)) fun σ H Q h => knin_rd h
theorem t_knin {k : Nat} {x : Str} {p : Pos} (hr : Room k X.A) (ha : PE X a0 (tE c a)) (hv : PE X (.Name x p) (tVar j)) : PT X (.Compare a0 [.NotIn] [.Name x p] pos) (tT c (.xt .knin j a b)) :=
  PT.le (pt_cmp (pc_dnotin (by have := hr.un; omega) (sD ha) hv)) fun σ H Q h => knin_rd (tT_tE h)
theorem s_kget {k : Nat} (hr : Room k X.A) (hs : NoSl a0) (ha : PE X a0 (tE c a)) (hv : PE X d0 (tVar j)) : PE X (.Subscript d0 a0 pos) (tE c (.xt .kget j a b)) :=
  PE.le (pe_dget (by have := hr.un; omega) hv (sD ha) hs) fun σ H Q ⟨G, ρ, sv, ρ', R, e, q⟩ => by
    unfold ev at e
    obtain ⟨kv0, e0, e⟩ := ob_some e
    obtain ⟨sva, ρ1, dx, e1, z1, e⟩ := bz_some e
    obtain ⟨k, e2, e⟩ := ob_some e
    obtain ⟨kvs, e3, e⟩ := ob_some e
    obtain ⟨d, e4, e⟩ := ob_some e
    cases e
    obtain ⟨a, _, h0, _⟩ := slotC_at R e0
    refine ⟨.ref a, h0, G, ρ, sva, dx, _, R, e1, z1, fun x H1 G1 E1 R1 D1 => ?_⟩
    obtain ⟨a', xs, h1, h2, h3, h4, h5⟩ := slotC_at R1 e3
    rw [h0] at h1
    cases h1
    cases kD_at D1 e2
    rcases h5.val k with ⟨_, z⟩ | ⟨v, d', z1, z2, z3⟩
    · rw [e4] at z; cases z
    · rw [e4] at z2
      cases z2
      exact ⟨a, v, rfl, by rw [← z1]; exact DGet.k h3, q _ H1 G1 E1 R1 (.val z3)⟩
theorem s_kgetd {k : Nat} {ap : Pos} (hr : Room k X.A) (m : M2 X d0 "get" ap a0 b0 pos) (ha : PE X a0 (tE c a)) (hb : PE X b0 (tE c b)) (hv : PE X d0 (tVar j)) : PE X (.Call (.Attribute d0 "get" ap) [a0, b0] [] pos) (tE c (.xt .kgetd j a b)) :=
  PE.le (pe_dget2 (by have := hr.un; omega) hv (sD ha) (sD hb) m) fun σ H Q ⟨G, ρ, sv, ρ', R, e, q⟩ => by
    unfold ev at e
    obtain ⟨kv0, e0, e⟩ := ob_some e
    obtain ⟨sva, ρ1, dx, e1, z1, e⟩ := bz_some e
    obtain ⟨svb, ρ2, dy, e2, z2, e⟩ := bz_some e
    obtain ⟨k, e3, e⟩ := ob_some e
    obtain ⟨kvs, e4, e⟩ := ob_some e
    cases e
    obtain ⟨a, xs0, h0, _, r0, _⟩ := slotC_at R e0
    refine ⟨.ref a, h0, a, rfl, .inl ⟨_, .inl r0⟩, G, ρ, sva, dx, _, R, e1, z1, fun x H1 G1 E1 R1 D1 => ⟨G1, _, svb, dy, _, R1, e2, z2, fun y H2 G2 E2 R2 D2 => ?_⟩⟩
    obtain ⟨a', xs, h1, h2, h3, h4, h5⟩ := slotC_at R2 e4
    rw [h0] at h1
    cases h1
    cases kD_at D1 e3
    refine ⟨_, DGet.k h3, ?_⟩
    rcases h5.val k with ⟨z1, z2⟩ | ⟨v, d', z1, z2, z3⟩
    · rw [z1]
      rw [z2] at q
      exact q _ H2 G2 (E1.trans E2) R2 (.val D2)
    · rw [z1]
      rw [z2] at q
      exact q _ H2 G2 (E1.trans E2) R2 (.val z3)
/-! ### texts joined -/
theorem Drs.strs_of {G : Hp} : ∀ {xs : List V} {ds : List D} {zs : List Str}, Drs G xs ds → strsD ds = some zs → xs = zs.map V.str
  | _, _, _, .nil, e => by cases e; rfl
  | _, _, zs, .cons (d := d) (ds := ds) h r, e => by
    cases d with
    | str z =>
      have e : (strsD ds).map (z :: ·) = some zs := e
      cases q : strsD ds with
      | none => rw [q] at e; cases e
      | some ys =>
        rw [q] at e
        cases e
        cases h
        rw [List.map_cons, ← r.strs_of q]
    | _ => cases e
theorem s_tjoin {ap : Pos} (ha : PE X a0 (tE c a)) (hb : PE X b0 (tE c b)) (hs : starEach [b0] X.env = [(false, eval b0 X.env)]) (hbase : attributeBase a0 (Str.ofString "join") X.env (eval a0 X.env) = eval a0 X.env) (hl : (ap.endLine == pos.line) = true) :
    PE X (.Call (.Attribute a0 (Str.ofString "join") ap) [b0] [] pos) (tE c (.xt .tjoin j a b)) :=
  PE.le (pe_join (sD ha) (sD hb) hs hbase hl) fun σ H Q ⟨G, ρ, sv, ρ', R, e, q⟩ => by
    unfold ev at e
    obtain ⟨sva, ρ1, dx, e1, z1, e⟩ := bz_some e
    obtain ⟨svb, ρ2, dy, e2, z2, e⟩ := bz_some e
    obtain ⟨w, e3, e⟩ := ob_some e
    cases e
    unfold joinD at e3
    obtain ⟨y0, f1, e3⟩ := ob_some e3
    obtain ⟨ds, f2, e3⟩ := ob_some e3
    obtain ⟨zs, f3, e3⟩ := ob_some e3
    obtain ⟨hz, e3⟩ := ite_if e3
    cases e3
    have fx : dx = .str y0 := by cases dx <;> first | (cases f1; rfl) | cases f1
    subst fx
    refine ⟨G, ρ, sva, _, _, R, e1, z1, fun x H1 G1 E1 R1 D1 => ?_⟩
    cases D1
    refine ⟨⟨_, rfl⟩, G1, _, svb, dy, _, R1, e2, z2, fun y H2 G2 E2 R2 D2 => ?_⟩
    obtain ⟨p, xs, rfl, ra, hS⟩ := items_of (K := X.K) R2.le (.inl D2) (seq_items f2)
    have ex := ra.strs_of f3
    subst ex
    exact ⟨y0, p, zs, rfl, rfl, hS, hz, q _ H2 G2 (E1.trans E2) R2 (.val (.str _))⟩
theorem s_trep {nm x : Str} {p ap pos2 cp c1 c2 : Pos} {z0 y z : Str} {cj j1 j2 : Nat} (hb : PE X (.Name x p) (tE c b)) (hn : nm = Str.ofString "replace") (hyz : (y == z) = false) (hl : (ap.endLine == pos2.line) = true) :
    PE X (.BinOp (.Constant (.str z0) cj cp) .Add (.Call (.Attribute (.Name x p) nm ap) [.Constant (.str y) j1 c1, .Constant (.str z) j2 c2] [] pos2) pos) (tE c (.xt (.trep y z) j (.str z0) b)) := by
  subst hn
  refine ⟨fun pins s σ H Q I ⟨G, ρ, sv, ρ', R, e, q⟩ => wpAny_BinOp (Calls.Constant_str ?_)⟩
  have e : (bz (ev c b ρ) fun w ρ2 => ob (trepD y z z0 w) fun v => some (v, ρ2)) = some (sv, ρ') := e
  obtain ⟨svb, ρ2, dw, e2, z2, e⟩ := bz_some e
  obtain ⟨v, e4, e⟩ := ob_some e
  cases e
  cases dw with
  | str t =>
    have e4 : (if (okL (t.length + (t.length + 1) * z.length) && okL (z0.length + (Txt.replace t y z).length)) = true then some (SV.val (.str (z0 ++ Txt.replace t y z))) else none) = some sv := e4
    obtain ⟨e5, e4⟩ := ite_if e4
    cases e4
    have e6 : okL (z0.length + (Txt.replace t y z).length) = true := by simp only [Bool.and_eq_true] at e5; exact e5.2
    have e5 : okL (t.length + (t.length + 1) * z.length) = true := by simp only [Bool.and_eq_true] at e5; exact e5.1
    refine thn (CwR.pet_replC (k := j2) (c0 := c1) (c1 := c2) (apos := ap) (pos := pos2) (y := y) (z := z) (j := j1) (sD hb) hyz rfl rfl hl pins _ σ H _ (by show 1 ≤ s.toks + 1; omega) (I.tok _) ⟨G, ρ, svb, _, _, R, e2, z2, fun u H1 G1 E1 R1 D1 => ?_⟩) fun u s2 ⟨yv, H2, I2, r2, q2⟩ => op_add_str pins s2 σ H2 (.str z0) yv _ u Q I2 ⟨_, rfl⟩ r2 q2
    cases D1
    exact ⟨t, rfl, Nat.le_of_lt (okL_lt e5), z0, _, rfl, rfl, Nat.le_of_lt (okL_lt e6), q _ H1 G1 E1 R1 (.val (.str _))⟩
  | _ => cases e4
theorem intK_is {G : Hp} : ∀ {xs : List (L2.Key × V)} {kvs : List (L2.Key × D)} {ns : List Int}, KdR G xs kvs → intK kvs = some ns → xs.map (·.1) = ns.map Sum.inl
  | _, _, _, .nil, e => by cases e; rfl
  | _, _, ns, .cons (.inl i) (kvs := kvs) h r, e => by
    have e : (intK kvs).map (i :: ·) = some ns := e
    cases z : intK kvs with
    | none => rw [z] at e; cases e
    | some ms => rw [z] at e; cases e; rw [List.map_cons, List.map_cons, intK_is r z]
  | _, _, _, .cons (.inr x) h r, e => by cases e
theorem s_kskeys {p ap cp : Pos} (hc : X.calm = true) (hg : Gl X (Str.ofString "sorted")) (hm : X.mg (Str.ofString "sorted") = none) (hbase : attributeBase d0 (Str.ofString "keys") X.env (eval d0 X.env) = eval d0 X.env) (hl : (ap.endLine == cp.line) = true) (hv : PE X d0 (tVar j)) :
    PE X (.Call (.Name (Str.ofString "sorted") p) [.Call (.Attribute d0 (Str.ofString "keys") ap) [] [] cp] [] pos) (tE c (.xt .kskeys j a b)) :=
  PE.le (pe_callB (cr_sortVK hc) hg hm (by decide +kernel) (a_one rfl (pe_keysK hv hbase hl)) (by decide +kernel) (by decide +kernel) rfl rfl) fun σ H Q ⟨G, ρ, sv, ρ', R, e, q⟩ => by
    unfold ev at e
    obtain ⟨kvs, e0, e⟩ := ob_some e
    obtain ⟨ns, e1, e⟩ := ob_some e
    cases e
    obtain ⟨a, xs, h0, h2, r0, g0, h4⟩ := slotC_at R e0
    refine ⟨.ref a, h0, a, xs, rfl, rfl, r0, fun p np => ?_⟩
    have hpa : a ≠ p := ne_of_none r0 np
    have sP : Same H (upd H p (viewO p a)) := same_upd np
    refine ⟨p, a, xs, ns, rfl, upd_same, by rw [upd_ne hpa]; exact r0, intK_is h4 e1, fun ns' q' h1 h2 hq => ?_⟩
    rw [sortI_one h1 h2]
    obtain ⟨G', s1, s2, s3, f, V1⟩ := svn_lst (p := q') (R.le.trans sP) (Drs.ints (G := G) (sortI ns)) hq
    have N2 : SvN G H (.ref q') (.own ((sortI ns).map .int)) (upd (upd H p (viewO p a)) q' (.lst ((sortI ns).map V.int))) := by
      refine ⟨G', s1, s2, sP.trans s3, fun b u hb g t => f b u (sP b u hb) g t, ?_⟩
      obtain ⟨a2, ys, e1, n1, n2, n3, n4⟩ := V1
      exact ⟨a2, ys, e1, sP.free n1, n2, n3, n4⟩
    obtain ⟨G3, E3, R3, S3⟩ := fin_new R N2
    exact q _ _ G3 E3 R3 S3

/-! ### lists of lists -/
theorem slotM_at {G H : Hp} {σ : St} {ρ : Rho} {lo n : Nat} (R : Rel G H σ ρ) (h : slotM ρ j = some (lo, n)) : ρ[j]? = some (.oll lo n) ∧ ∃ a xs, σ[j]? = some (some (.ref a)) ∧ G a = some (.lst xs) ∧ xs.length = n ∧
    ∀ (k : Nat) (ds : List D), k < n → ρ[lo + k]? = some (.gho ds) → σ[lo + k]? = some xs[k]? := by
  unfold slotM at h
  cases z : rd ρ j with
  | oll lo' n' =>
    rw [z] at h
    cases h
    have z2 := rd_get z (by intro z; cases z)
    exact ⟨z2, R.tie j lo n z2⟩
  | _ => rw [z] at h; cases h
theorem slotG_at {G H : Hp} {σ : St} {ρ : Rho} {i : Nat} {ds : List D} (R : Rel G H σ ρ) (h : slotG ρ i = some ds) : ρ[i]? = some (.gho ds) ∧ ∃ b ys, σ[i]? = some (some (.ref b)) ∧ H b = some (.lst ys) ∧ G b = none ∧ Drs G ys ds := by
  unfold slotG at h
  cases z : rd ρ i with
  | gho es =>
    rw [z] at h
    cases h
    have z2 := rd_get z (by intro z; cases z)
    obtain ⟨o, h1, h2⟩ := R.at z2
    cases h2 with
    | gho x1 x2 x3 => exact ⟨z2, _, _, h1, x1, x2, x3⟩
  | _ => rw [z] at h; cases h
theorem ixN_lt {n : Nat} {k : Int} {i : Nat} (h : ixN n k = some i) : i < n := (ixN_seq h).2.1
/-- a row -/
theorem row_at {G H : Hp} {σ : St} {ρ : Rho} {lo n i : Nat} {k : Int} {ds : List D} (R : Rel G H σ ρ) (hm : slotM ρ j = some (lo, n)) (hi : ixN n k = some i) (hg : slotG ρ (lo + i) = some ds) :
    ∃ a xs b ys, σ[j]? = some (some (.ref a)) ∧ G a = some (.lst xs) ∧ atI xs k = some (.ref b) ∧ σ[lo + i]? = some (some (.ref b)) ∧ ρ[lo + i]? = some (.gho ds) ∧ H b = some (.lst ys) ∧ G b = none ∧ Drs G ys ds := by
  obtain ⟨_, a, xs, h1, h2, h3, h4⟩ := slotM_at R hm
  obtain ⟨g0, b, ys, g1, g2, g3, g4⟩ := slotG_at R hg
  have e := h4 i ds (ixN_lt hi) g0
  rw [g1] at e
  refine ⟨a, xs, b, ys, h1, h2, ?_, g1, g0, g2, g3, g4⟩
  unfold atI
  rw [h3, hi]
  exact (Option.some.inj e).symm
def tRow (K : PySem.W.Frag) (j : Nat) (ta : TE) : TE := tOp (rIxL K) (tVar j) ta
theorem s_m2 {x : Str} {p p1 : Pos} (hv : PE X (.Name x p) (tVar j)) (ha : PE X a0 (tE c a)) (hb : PE X b0 (tE c b)) (hs : PlainIx a0) (hs2 : PlainIx b0) : PE X (.Subscript (.Subscript (.Name x p) a0 p1) b0 pos) (tE c (.xt .m2 j a b)) :=
  PE.le (pe_ix ix_list (pe_ix ix_list hv (sD ha) hs) (sD hb) hs2) fun σ H Q ⟨G, ρ, sv, ρ', R, e, q⟩ => by
    unfold ev at e
    obtain ⟨⟨lo0, n0⟩, e0, e⟩ := ob_some e
    obtain ⟨sva, ρ1, dx, e1, z1, e⟩ := bz_some e
    obtain ⟨_, a0, xs0, s1, _⟩ := slotM_at R e0
    refine ⟨.ref a0, s1, G, ρ, sva, dx, ρ1, R, e1, z1, fun y H1 G1 E1 R1 D1 => ?_⟩
    cases dx with
    | int k =>
      cases D1
      obtain ⟨⟨lo, n⟩, e2, e⟩ := ob_some e
      obtain ⟨i, e3, e⟩ := ob_some e
      obtain ⟨ds0, e4, e⟩ := ob_some e
      obtain ⟨svb, ρ2, dy, e5, z2, e⟩ := bz_some e
      obtain ⟨a1, xs, b1, ys, h1, h2, h3, h4, _⟩ := row_at R1 e2 e3 e4
      rw [s1] at h1
      cases h1
      refine ⟨_, xs, k, .ref b1, rfl, rfl, SqL.of (R1.le _ _ h2), h3, G1, ρ1, svb, dy, ρ2, R1, e5, z2, fun w H2 G2 E2 R2 D2 => ?_⟩
      cases dy with
      | int m =>
        cases D2
        obtain ⟨ds, e6, e⟩ := ob_some e
        obtain ⟨d, e7, e⟩ := ob_some e
        cases e
        obtain ⟨_, b2, zs, g1, g2, g3, g4⟩ := slotG_at R2 e6
        rw [h4] at g1
        cases g1
        obtain ⟨v, v1, v2⟩ := g4.atI e7
        exact ⟨_, zs, m, v, rfl, rfl, SqL.of g2, v1, q v H2 G2 (E1.trans E2) R2 (.val v2)⟩
      | _ => cases e
    | _ => cases e
theorem rowsG_at {ρ : Rho} {lo : Nat} : ∀ {n : Nat} {rs : List D}, rowsG ρ lo n = some rs → rs.length = n ∧ ∀ i, i < n → ∃ ds, slotG ρ (lo + i) = some ds ∧ rs[i]? = some (.tuple ds)
  | 0, _, h => by cases h; exact ⟨rfl, fun i hi => absurd hi (Nat.not_lt_zero i)⟩
  | n + 1, rs, h => by
    unfold rowsG at h
    obtain ⟨rs0, e1, h⟩ := ob_some h
    obtain ⟨ds, e2, h⟩ := ob_some h
    cases h
    obtain ⟨h1, h2⟩ := rowsG_at e1
    refine ⟨by rw [List.length_append, h1]; rfl, fun i hi => ?_⟩
    by_cases c : i < n
    · obtain ⟨es, h3, h4⟩ := h2 i c
      exact ⟨es, h3, by rw [List.getElem?_append_left (by rw [h1]; exact c)]; exact h4⟩
    · have : i = n := by omega
      subst this
      exact ⟨ds, e2, by rw [List.getElem?_append_right (by rw [h1]; exact Nat.le_refl _), h1, Nat.sub_self]; rfl⟩
abbrev rTupF (K : PySem.W.Frag) : List V → Hp → VK → Prop := fun vs H Q => ∃ p ys, vs = [.ref p] ∧ ((SqL K H p ys ∧ NewT H ys Q) ∨ (SqT K H p ys ∧ Q (.ref p) H))
theorem same_trans_upd {H H2 : Hp} {p : Addr} {o : HO} (s : Same H H2) (h : H p = none) : Same H (upd H2 p o) := fun a u e => by rw [upd_ne (ne_of_none e h)]; exact s a u e
/-- tuple([tuple(y) for y in x]) -/
theorem mtt_rd {i0 : Nat} {σ : St} {H : Hp} {Q : VK} {K : PySem.W.Frag} (hl : i0 < σ.length) (h : tE c (.xt .mtt j a b) σ H Q) :
    tCB (rTupF K) (tCons (tLc (iList K (tVar j)) (gName i0) tYes (tCB (rTupF K) (tCons (tVar i0) tNil)) [i0]) tNil) σ H Q := by
  obtain ⟨G, ρ, sv, ρ', R, e, q⟩ := h
  unfold ev at e
  obtain ⟨⟨lo, n⟩, e0, e⟩ := ob_some e
  obtain ⟨rs, e1, e⟩ := ob_some e
  obtain ⟨hz, e⟩ := ite_some e
  cases e
  obtain ⟨_, a, xs, s1, s2, s3, s4⟩ := slotM_at R e0
  obtain ⟨r1, r2⟩ := rowsG_at e1
  have hn := okL_le hz
  have hxa := R.le _ _ s2
  refine ⟨.ref a, s1, a, rfl, ⟨xs, SqL.of hxa⟩, fun D nD => ⟨fun i m H2 => m = n - i ∧ i ≤ n ∧ ∃ G2 acc, Same G G2 ∧ Same G2 H2 ∧ Same H H2 ∧ (∀ b o, H b = some o → G b = none → NT o → G2 b = none) ∧ H2 D = some (.lst acc) ∧ G2 D = none ∧ Drs G2 acc (rs.take i),
    ⟨n, rfl, Nat.zero_le _, G, [], Same.refl _, R.le.trans (same_upd nD), same_upd nD, fun _ _ _ g _ => g, upd_same, R.le.free nD, .nil⟩, ?_⟩⟩
  rintro i m H2 ⟨rfl, hi, G2, acc, t1, t2, t3, t4, t5, t6, t7⟩
  have hlen : acc.length = i := by rw [t7.length, List.length_take, r1]; omega
  by_cases c : i < n
  · refine .inr ⟨⟨xs, xs[i]'(by omega), SqL.of (t3 _ _ hxa), List.getElem?_eq_getElem (by omega)⟩, fun H' => ∃ m', m' < n - i ∧ (m' = n - (i + 1) ∧ i + 1 ≤ n ∧ ∃ G2 acc, Same G G2 ∧ Same G2 H' ∧ Same H H' ∧ (∀ b o, H b = some o → G b = none → NT o → G2 b = none) ∧ H' D = some (.lst acc) ∧ G2 D = none ∧ Drs G2 acc (rs.take (i + 1))), fun H' h => h, ?_⟩
    rintro x H3 ⟨rfl, hx⟩
    have hx := hx xs (SqL.of (t3 _ _ hxa))
    obtain ⟨ds, d1, d2⟩ := r2 i c
    obtain ⟨g0, b1, ys, g1, g2, g3, g4⟩ := slotG_at R d1
    have hb := s4 i ds c g0
    rw [g1, hx] at hb
    cases hb
    refine ⟨by rw [wipe_set _ _ _ _ List.mem_cons_self, wipe_twice], ?_⟩
    unfold tYes
    dsimp only
    rw [if_pos rfl]
    refine ⟨.ref b1, by rw [List.getElem?_set_self (by rw [L2.wipe_length]; exact hl)], b1, ys, rfl, .inl ⟨SqL.of (t3 _ _ g2), fun l o nl hd => ?_⟩⟩
    have hlD : D ≠ l := ne_of_none t5 nl
    obtain ⟨G3, u1, u2, u3, u4, u5⟩ := svn_tup (p := l) (o := o) (xs := ys) t2 (g4.mono t1) nl hd
    refine ⟨acc, by rw [upd_ne hlD]; exact t5, by omega, n - (i + 1), by omega, rfl, c, G3, acc ++ [.ref l], t1.trans u1, fun b o' hb => ?_, ?_, fun b o' hb hg hn => ?_, upd_same, ?_, ?_⟩
    · have hbD : b ≠ D := fun z => by
        have := u4 D _ t5 t6 nt_lst
        rw [z, this] at hb; cases hb
      rw [upd_ne hbD]
      exact u2 b o' hb
    · exact same_trans_upd (t3.trans u3) nD
    · exact u4 b o' (t3 _ _ hb) (t4 _ _ hb hg hn) hn
    · exact u4 D _ t5 t6 nt_lst
    · rw [List.take_succ, d2]
      exact (t7.mono u1).append (.cons u5 .nil)
  · have : i = n := by omega
    subst this
    refine .inl ⟨⟨xs, SqL.of (t3 _ _ hxa), by omega⟩, D, acc, rfl, .inl ⟨SqL.of t5, fun l o nl hd => ?_⟩⟩
    rw [List.take_of_length_le (by omega)] at t7
    obtain ⟨G3, u1, u2, u3, u4, u5⟩ := svn_tup (p := l) (o := o) (xs := acc) t2 t7 nl hd
    obtain ⟨G4, E4, R4, S4⟩ := fin_new R (⟨G3, t1.trans u1, u2, t3.trans u3, fun b o' hb hg hn => u4 b o' (t3 _ _ hb) (t4 _ _ hb hg hn) hn, u5⟩ : SvN G H (.ref l) (.val (.tuple rs)) _)
    exact q _ _ G4 E4 R4 S4
end
end DP

/-! instances of an own class: fields, methods -/
namespace DP
open PySem PySem.Spec PyProof.Rows L2
variable [CA : ClsA]
theorem slotO_at {G H : Hp} {σ : St} {ρ : Rho} {j : Nat} {fs : List (Str × D)} (R : Rel G H σ ρ) (h : slotO ρ j = some fs) :
    ∃ a dx us, σ[j]? = some (some (.ref a)) ∧ ρ[j]? = some (.obj fs) ∧ H a = some (.ins CA.a dx us) ∧ G a = none ∧ FsR G us fs ∧ okF fs = true := by
  unfold slotO at h
  cases z : rd ρ j with
  | obj gs =>
    rw [z] at h
    obtain ⟨ho, h⟩ := ite_if h
    cases h
    have z2 := rd_get z (by intro z; cases z)
    obtain ⟨o, h1, h2⟩ := R.at z2
    cases h2 with
    | obj x1 x2 x3 => exact ⟨_, _, _, h1, z2, x1, x2, x3, ho⟩
  | _ => rw [z] at h; cases h
theorem FsR.no {G : Hp} {m : Str} (h1 : m ≠ Str.ofString "text") (h2 : m ≠ Str.ofString "at") : ∀ {us : List (Str × V)} {fs : List (Str × D)}, FsR G us fs → okF fs = true → us.lookup m = none
  | _, _, .nil, _ => rfl
  | _, _, .cons (f := g) (fs := fs) _ r, e => by
    unfold okF at e
    rw [List.all_cons, Bool.and_eq_true] at e
    have ng : (m == g) = false := by
      rw [beq_eq_false_iff_ne]
      intro z
      have e1 := e.1
      rw [Bool.or_eq_true] at e1
      rcases e1 with e1 | e1
      · exact h1 (z.trans (of_decide_eq_true e1))
      · exact h2 (z.trans (of_decide_eq_true e1))
    rw [List.lookup_cons, ng]
    exact r.no h1 h2 e.2
section
variable {X : Cx} {c : FT} {a0 : Expr} {b es : E} {es0 : List Expr} {pos : Pos} {σ : L2.St} {H : Hp} {j : Nat}
theorem s_fget {f y : Str} {p2 : Pos} (hc : Cls X.K CA.a ∧ NoAttr X.K CA.a f) (hv : PE X (.Name y p2) (tVar j)) (hb : attributeBase (.Name y p2) f X.env (eval (.Name y p2) X.env) = eval (.Name y p2) X.env) :
    PE X (.Attribute (.Name y p2) f pos) (tE c (.xt .fget j (.str f) b)) :=
  PE.le (pe_fld hv hb) fun σ H Q ⟨G, ρ, sv, ρ', R, e, q⟩ => by
    unfold ev at e
    obtain ⟨fs, e1, e⟩ := ob_some e
    obtain ⟨sv1, ρ1, x, e2, z2, e⟩ := bz_some e
    unfold ev at e2
    cases e2
    cases z2
    obtain ⟨d, e3, e⟩ := ob_some e
    cases e
    obtain ⟨a, dx, us, h1, h2, h3, h4, h5, _⟩ := slotO_at R e1
    obtain ⟨v, l1, l2⟩ := h5.look e3
    exact ⟨.ref a, h1, a, CA.a, dx, us, v, rfl, h3, hc.1, hc.2, l1, q v H G Ext.refl R (.val l2)⟩
theorem call_ht {o : Expr} {m : Str} {ap pos : Pos} {args : List Expr} {env : Env} (hb : attributeBase o m env (eval o env) = eval o env) (hl : (ap.endLine == pos.line) = true) (hmf : methodCallForm (args.length + ([] : List Keyword).length) (backTo pos (starEach args env)) (backToKw pos (keywordEach [] env)) = true) : eval (.Call (.Attribute o m ap) args [] pos) env = (do
      let ov ← eval o env
      standAt ap.atName
      let (f, first) ← holding [ov] (getMethod ov m (do return (← importBound o env).getD true))
      callWith pos f first (backTo pos (starEach args env)) (backToKw pos (keywordEach [] env))) := by
  rw [arm_eval_Call, hb]
  unfold methodCall methodCallPos
  simp only [hl, Bool.or_true, if_true, pure_bind, hmf, calleeOf]
theorem ta_nil {σ : L2.St} {H : Hp} {Q : List V → Hp → Prop} (h : tA c .nil σ H Q) : Q [] H := by
  obtain ⟨G, ρ, ds, ρ', R, e, q⟩ := h
  unfold evs at e
  cases e
  exact q [] H G Ext.refl R .nil
theorem callO_rd {f r : Nat} {m : Str} {Q : VK} (n1 : m ≠ Str.ofString "text") (n2 : m ≠ Str.ofString "at") (no : isOb f = true) (h : tE c (.callr f r es) σ H Q) : tMeth CA.a m (spF c f true) [] E0 (tVar r) (tA c es) σ H Q := by
  obtain ⟨G, ρ, sv, ρ', R, e, q⟩ := h
  unfold ev at e
  rw [if_pos no] at e
  obtain ⟨fs0, e1, e⟩ := ob_some e
  obtain ⟨ds, ρ1, e2, e⟩ := bd_some e
  obtain ⟨fs, e3, e⟩ := ob_some e
  obtain ⟨p, e4, e⟩ := ob_some e
  obtain ⟨sv2, es2⟩ := p
  obtain ⟨fs', e5, e⟩ := ob_some e
  cases e
  obtain ⟨a, dx0, us0, k1, k3, h1, g1, d1, o1⟩ := slotO_at R e1
  refine ⟨.ref a, k1, a, dx0, us0, rfl, h1, d1.no n1 n2 o1, G, ρ, ds, ρ1, R, e2, fun vs H1 G1 E1 R1 D1 => ?_⟩
  obtain ⟨a', dx, us, k2, k4, h2, g2, d2, o2⟩ := slotO_at R1 e3
  have ka := (E1.row r a 2 k1 (by rw [k3]; rfl)).1
  rw [ka] at k2
  cases k2
  show spF c f true ((.ref a :: (vs ++ []))) H1 Q E0
  rw [List.append_nil]
  refine .inr (.inr ⟨no, G1, a, dx, us, fs, vs, ds, sv2, es2, fs', rfl, R1.le, h2, g2, d2, D1, e4, e5, fun v H2 N => ?_⟩)
  obtain ⟨G2, dx', us', s1, s2, kp, cl, g3, h3, d3, V2⟩ := N
  obtain ⟨E2, R2, hb2⟩ := R1.wroteX (G' := G2) (H' := H2) (sv := .obj fs') ka k4 rfl rfl s1 s2 kp cl h3 (.obj h3 g3 d3) (fun b z => z) (.inl rfl)
  refine q v H2 G2 (E1.trans E2) R2 (SvR.older ?_ E1.dom)
  cases sv2 with
  | val dd => exact .val V2
  | own es2 =>
    obtain ⟨a2, ys, rfl, n1, n2, n3, n4⟩ := V2
    exact .own n3 n2 n4 n1 fun z => (R1.new n1).1 (hb2 _ z)
  | dct lk kvs =>
    cases lk with
    | true => exact V2.elim
    | false =>
      obtain ⟨a2, ys, rfl, n1, n2, n3, n4⟩ := V2
      exact .dct n3 n2 n4 n1 fun z => (R1.new n1).1 (hb2 _ z)
  | dk kvs =>
    obtain ⟨a2, ys, rfl, n1, n2, n3, n4⟩ := V2
    exact .dk n3 n2 n4 n1 fun z => (R1.new n1).1 (hb2 _ z)
  | gho _ => exact V2.elim
  | oll _ _ => exact V2.elim
  | rdc _ => exact V2.elim
  | obj _ => exact V2.elim
  | un => exact V2.elim
  | row _ => exact V2.elim
theorem s_callO {f k r : Nat} {fa : Addr} {fd : FuncData} {ps : List Str} {y m : Str} {p2 ap : Pos} {e1 : Expr} {e2 : E} (F : FnOk X.prog X.w X.K X.mg X.base CX0 k fa fd ps (spF c f true)) (hr : Room k X.A) (hcl : Cls X.K CA.a) (hm : Meth X.K CA.a m fa)
    (n1 : m ≠ Str.ofString "text") (n2 : m ≠ Str.ofString "at") (hb : Binds X.K fd ps []) (hv : PE X (.Name y p2) (tVar r)) (ha : PE X e1 (tE c e2)) (hbase : attributeBase (.Name y p2) m X.env (eval (.Name y p2) X.env) = eval (.Name y p2) X.env) (hl : (ap.endLine == pos.line) = true)
    (hst : starEach [e1] X.env = (false, eval e1 X.env) :: starEach [] X.env) (no : isOb f = true) : PE X (.Call (.Attribute (.Name y p2) m ap) [e1] [] pos) (tE c (.callr f r (.cons e2 .nil))) :=
  PE.le (pe_meth hv hcl hm F hr hb .nil pass0 (a_cons hst ha a_nil) hst rfl (call_ht hbase hl (by rw [hst]; rfl))) fun σ H Q h => callO_rd n1 n2 no h
theorem s_callO0 {f k r : Nat} {fa : Addr} {fd : FuncData} {ps : List Str} {y m : Str} {p2 ap : Pos} (F : FnOk X.prog X.w X.K X.mg X.base CX0 k fa fd ps (spF c f true)) (hr : Room k X.A) (hcl : Cls X.K CA.a) (hm : Meth X.K CA.a m fa)
    (n1 : m ≠ Str.ofString "text") (n2 : m ≠ Str.ofString "at") (hb : Binds X.K fd ps []) (hv : PE X (.Name y p2) (tVar r)) (hbase : attributeBase (.Name y p2) m X.env (eval (.Name y p2) X.env) = eval (.Name y p2) X.env) (hl : (ap.endLine == pos.line) = true)
    (no : isOb f = true) : PE X (.Call (.Attribute (.Name y p2) m ap) [] [] pos) (tE c (.callr f r .nil)) :=
  PE.le (pe_meth0 (o := .Name y p2) (m := m) (apos := ap) (pos := pos) hv hcl hm F hr hb .nil pass0 (call_ht hbase hl rfl)) fun σ H Q h => by
    obtain ⟨x, hx, a, dx, fs, e1, e2, e3, h⟩ := callO_rd n1 n2 no h
    exact ⟨x, hx, a, dx, fs, e1, e2, e3, ta_nil h⟩
end
end DP

/-! does a term of ours stand for a program's expression? and then its answer is the program's -/
namespace DP
open PySem PySem.Spec PyProof.Rows L2
variable [CA : ClsA]

structure Ck where
  N : List Str
  sc : Scope
  fnb : Str → Bool
  cst : Str → Option D
  fid : Str → Option (Nat × Bool)
  bl : List Str
  mid : Str → Option Nat
  cls : Bool
  xs : List Str
  top : Bool
def visC (sc : Scope) (x : Str) : Bool := match sc.names.lookup x with
  | some .local => true
  | some .cell => true
  | some .free => true
  | _ => false
def glC (sc : Scope) (x : Str) : Bool := match sc.names.lookup x with
  | some .globalImplicit => true
  | _ => false
def plainN (x : Str) : Bool := !(x == Str.ofString "__debug__") && !(x == Str.ofString "__classdict__")
def varC (C : Ck) (i : Nat) (x : Str) : Bool := decide (C.N[i]? = some x) && visC C.sc x && plainN x
def isB (C : Ck) (n : String) (x : Str) : Bool := decide (x = Str.ofString n) && glC C.sc x && decide (x ∈ C.bl)
def opC : Op2 → Operator → Bool
  | .add, .Add => true
  | .sub, .Sub => true
  | .mul, .Mult => true
  | .fdiv, .FloorDiv => true
  | .mod, .Mod => true
  | .pow, .Pow => true
  | _, _ => false
def cmC : Cm → CmpOp → Bool
  | .eq, .Eq => true
  | .ne, .NotEq => true
  | .lt, .Lt => true
  | .le, .LtE => true
  | .gt, .Gt => true
  | .ge, .GtE => true
  | .isin, .In => true
  | .notin, .NotIn => true
  | .is_, .Is => true
  | .nis, .IsNot => true
  | _, _ => false
theorem opC_is {o : Op2} {p : Operator} (h : opC o p = true) : p = opO o := by cases o <;> cases p <;> first | rfl | cases h
theorem cmC_is {o : Cm} {p : CmpOp} (h : cmC o p = true) : p = cmO o := by cases o <;> cases p <;> first | rfl | cases h
def notSl : Expr → Bool
  | .Slice _ _ _ _ => false
  | _ => true
def notSet : Expr → Bool
  | .Set _ _ _ => false
  | _ => true
def notCall : Expr → Bool
  | .Call _ [] _ _ => false
  | _ => true
def tstE : E → Bool
  | .not a => tstE a
  | .and a b => tstE a && tstE b
  | .or a b => tstE a && tstE b
  | .ife _ _ _ => false
  | .fz _ a => tstE a
  | _ => true
/-- a name that is stored: a local, or a cell of the block's own -/
def stoC (C : Ck) (i : Nat) (x : Str) : Bool := decide (C.N[i]? = some x) && (match C.sc.names.lookup x with
  | some .local => true
  | some .cell => C.fnb x
  | _ => false)
def namesC (C : Ck) : List Nat → List Expr → Bool
  | [], [] => true
  | i :: is, .Name x _ :: es => stoC C i x && namesC C is es
  | _, _ => false
def tgC (C : Ck) (t : Tg) (e : Expr) : Bool := match t with
  | .one i => (match e with | .Name x _ => stoC C i x | _ => false)
  | .many is => (match e with | .Tuple es _ _ => namesC C is es | _ => false)
def ownC (C : Ck) (vs : List Nat) : List (Str × Nat) := vs.map fun j => (C.N.getD j (Str.ofString ""), j)
def blkK (C : Ck) (scope : Scope) : Ck := { C with sc := relS scope C.sc, fnb := fun x => scope.names.lookup x == some .cell, top := false }
/-- the name of a method, not of a field -/
def mthN (m : Str) : Bool := !decide (m = Str.ofString "text") && !decide (m = Str.ofString "at")
/-- the further operations -/
def chkX (C : Ck) (o : Xo) (j : Nat) (a b : E) (ca cb : Expr → Bool) (e0 : Expr) : Bool := match o with
  | .knew => (match e0 with | .Dict [] [] _ => true | _ => false)
  | .kin => (match e0 with | .Compare a0 [.In] [.Name x _] _ => varC C j x && ca a0 | _ => false)
  | .knin => (match e0 with | .Compare a0 [.NotIn] [.Name x _] _ => varC C j x && ca a0 | _ => false)
  | .kget => (match e0 with | .Subscript (.Name x _) a0 _ => varC C j x && notSl a0 && ca a0 | _ => false)
  | .kgetd => (match e0 with | .Call (.Attribute (.Name x _) nm ap) [a0, b0] [] pos => (decide (nm = Str.ofString "get") && (ap.endLine == pos.line) && varC C j x) && ca a0 && cb b0 | _ => false)
  | .kskeys => (match e0 with | .Call (.Name y _) [.Call (.Attribute (.Name x _) nm ap) [] [] cp] [] _ => (isB C "sorted" y && decide (nm = Str.ofString "keys")) && (ap.endLine == cp.line) && varC C j x | _ => false)
  | .tjoin => (match e0 with | .Call (.Attribute (.Constant (.str z) cj cp) nm ap) [b0] [] pos => (decide (nm = Str.ofString "join") && (ap.endLine == pos.line)) && ca (.Constant (.str z) cj cp) && cb b0 | _ => false)
  | .trep y z => (match a with | .str w => (match e0 with | .BinOp (.Constant (.str z0) _ _) .Add (.Call (.Attribute (.Name x p) nm ap) [.Constant (.str y1) _ _, .Constant (.str z1) _ _] [] pos2) _ => (decide (w = z0) && decide (nm = Str.ofString "replace") && (ap.endLine == pos2.line)) && (decide (y1 = y) && decide (z1 = z) && !(y == z)) && cb (.Name x p) | _ => false) | _ => false)
  | .fget => (match a with | .str f => (match e0 with | .Attribute (.Name x _) nm _ => varC C j x && decide (nm = f) && (decide (f = Str.ofString "text") || decide (f = Str.ofString "at")) && C.cls | _ => false) | _ => false)
  | .m2 => (match e0 with | .Subscript (.Subscript (.Name x _) a0 _) b0 _ => (varC C j x && notSl a0 && notSl b0) && ca a0 && cb b0 | _ => false)
  | .mtt => (match a with
    | .var i => (match e0 with
      | .Call (.Name t1 _) [.ListComp (.Call (.Name t2 _) [.Name y _] [] _) [⟨.Name y2 _, .Name x _, [], 0⟩] scope _] [] _ =>
        (isB C "tuple" t1 && varC C j x && blkC C.N C.sc scope (ownC C [i])) && (stoC (blkK C scope) i y2 && isB (blkK C scope) "tuple" t2 && varC (blkK C scope) i y)
      | _ => false)
    | _ => false)
mutual
def chkE (C : Ck) : E → Expr → Bool
  | .var i, e0 => (match e0 with | .Name x _ => varC C i x | _ => false)
  | .non, e0 => (match e0 with | .Constant .none _ _ => true | _ => false)
  | .dc0, e0 => (match e0 with | .Dict [] [] _ => true | _ => false)
  | .lset a, e0 => (match e0 with | .Call (.Name x _) [.Call (.Name y _) [a0] [] _] [] _ => isB C "len" x && isB C "set" y && chkE C a a0 | _ => false)
  | .ten a, e0 => (match e0 with | .Call (.Name x _) [.Call (.Name y _) [a0] [] _] [] _ => isB C "tuple" x && isB C "enumerate" y && chkE C a a0 | _ => false)
  | .sst a, e0 => (match e0 with | .Call (.Name x _) [.Call (.Name y _) [a0] [] _] [] _ => isB C "sorted" x && isB C "set" y && chkE C a a0 | _ => false)
  | .d1 k v, e0 => (match e0 with | .Dict [some a0] [b0] _ => chkE C k a0 && chkE C v b0 | _ => false)
  | .vsum a, e0 => (match e0 with | .Call (.Name x _) [.Call (.Attribute (.Call (.Name f fp) (a0 :: es0) [] cp0) nm ap) [] [] cp] [] _ => isB C "sum" x && decide (nm = Str.ofString "values") && ((ap.endLine == cp.line) && chkE C a (.Call (.Name f fp) (a0 :: es0) [] cp0)) | _ => false)
  | .cme j, e0 => (match e0 with | .Compare (.Name x _) [.Eq] [.List [] lp] _ => varC C j x && !behindInMarks .Eq (.List [] lp) | _ => false)
  | .cmn j, e0 => (match e0 with | .Compare (.Name x _) [.NotEq] [.List [] lp] _ => varC C j x && !behindInMarks .NotEq (.List [] lp) | _ => false)
  | .bl b, e0 => (match e0 with | .Constant (.bool k) _ _ => decide (b = k) | _ => false)
  | .int i, e0 => (match e0 with
    | .Constant (.int j) _ _ => decide (i = j)
    | .Name x _ => glC C.sc x && plainN x && (match C.cst x with | some (.int j) => decide (i = j) | _ => false)
    | _ => false)
  | .str s, e0 => (match e0 with
    | .Constant (.str t) _ _ => decide (s = t)
    | .Name x _ => glC C.sc x && plainN x && (match C.cst x with | some (.str t) => decide (s = t) | _ => false)
    | _ => false)
  | .op o a b, e0 => (match e0 with | .BinOp a0 p b0 _ => opC o p && chkE C a a0 && chkE C b b0 | _ => false)
  | .neg a, e0 => (match e0 with | .UnaryOp .USub a0 _ => chkE C a a0 | _ => false)
  | .not a, e0 => (match e0 with | .UnaryOp .Not a0 _ => chkE C a a0 | _ => false)
  | .and a b, e0 => (match e0 with
    | .BoolOp .And [x, y] _ => chkE C a x && chkE C b y
    | .BoolOp .And (x :: y :: z :: r) p => chkE C a x && chkE C b (.BoolOp .And (y :: z :: r) p)
    | _ => false)
  | .or a b, e0 => (match e0 with
    | .BoolOp .Or [x, y] _ => chkE C a x && chkE C b y
    | .BoolOp .Or (x :: y :: z :: r) p => chkE C a x && chkE C b (.BoolOp .Or (y :: z :: r) p)
    | _ => false)
  | .ife k a b, e0 => (match e0 with | .IfExp k0 a0 b0 _ => tstE k && chkE C k k0 && chkE C a a0 && chkE C b b0 | _ => false)
  | .isn a, e0 => (match e0 with | .Compare a0 [.Is] [.Constant .none _ _] _ => chkE C a a0 | _ => false)
  | .isnt a, e0 => (match e0 with | .Compare a0 [.IsNot] [.Constant .none _ _] _ => chkE C a a0 | _ => false)
  | .cmp o a b, e0 => (match e0 with | .Compare a0 [p] [b0] _ => cmC o p && !behindInMarks p b0 && chkE C a a0 && chkE C b b0 | _ => false)
  | .chain o q a b d, e0 => (match e0 with | .Compare a0 [p, r] [b0, d0] _ => cmC o p && cmC q r && !lastMarks [p, r] [b0, d0] && chkE C a a0 && chkE C b b0 && chkE C d d0 | _ => false)
  | .tup es, e0 => (match e0 with | .Tuple es0 _ _ => chkA C es es0 | _ => false)
  | .lst es, e0 => (match e0 with | .List es0 _ => chkA C es es0 | _ => false)
  | .idx a i, e0 => (match e0 with | .Subscript a0 i0 _ => notSl i0 && chkE C a a0 && chkE C i i0 | _ => false)
  | .slice a lo hi, e0 => (match e0 with
    | .Subscript a0 (.Slice l0 h0 none _) _ => chkE C a a0 && (match l0 with | none => isNil lo | some l => !isNil lo && chkE C lo l) && (match h0 with | none => isNil hi | some h => !isNil hi && chkE C hi h)
    | _ => false)
  | .rev a, e0 => (match e0 with | .Subscript a0 (.Slice none none (some (.UnaryOp .USub (.Constant (.int 1) _ _) _)) _) _ => chkE C a a0 | _ => false)
  | .comp el it t cond vs, e0 => (match e0 with
    | .ListComp el0 [⟨tg, iter, ifs, 0⟩] scope _ => blkC C.N C.sc scope (ownC C vs) && tgC (blkK C scope) t tg && (slotsT t).all (fun j => decide (j ∈ vs)) && notSet iter && chkI C it tg iter && chkE (blkK C scope) el el0 &&
        (match ifs with | [] => isNil cond | [k] => !isNil cond && tstE cond && chkE (blkK C scope) cond k | _ => false)
    | _ => false)
  | .call f es, e0 => (match e0 with | .Call (.Name x _) es0 [] _ => glC C.sc x && plainN x && decide (C.fid x = some (f, false)) && chkA C es es0 | _ => false)
  | .pop j, e0 => (match e0 with | .Call (.Attribute (.Name x _) nm ap) [] [] cp => varC C j x && decide (nm = Str.ofString "pop") && (ap.endLine == cp.line) | _ => false)
  | .ln f j, e0 => (match e0 with | .Call (.Name x _) [.Name y _] [] _ => glC C.sc x && plainN x && decide (C.fid x = some (f, false)) && varC C j y | _ => false)
  | .callr f r es, e0 => if isOb f = true then (match e0 with
      | .Call (.Attribute (.Name y _) m ap) [] [] pos => (decide (C.mid m = some f) && isNil es) && ((ap.endLine == pos.line) && mthN m) && varC C r y
      | .Call (.Attribute (.Name y _) m ap) [b1] [] pos => (match es with | .cons e1 .nil => (decide (C.mid m = some f) && (ap.endLine == pos.line)) && (mthN m && varC C r y) && chkE C e1 b1 | _ => false)
      | _ => false)
    else if isDl f = true then (match es with | .cons e1 (.cons e2 .nil) => (match e0 with | .Call (.Name x _) [b1, b2, .Name y _] [] _ => (glC C.sc x && plainN x && decide (C.fid x = some (f, true))) && varC C r y && (chkE C e1 b1 && chkE C e2 b2) | _ => false) | _ => false) else (match e0 with | .Call (.Name x _) (.Name y _ :: es0) [] _ => glC C.sc x && plainN x && decide (C.fid x = some (f, true)) && varC C r y && chkA C es es0 | _ => false)
  | .isi a t, e0 => (match e0 with | .Call (.Name x _) [a0, .Name y _] [] _ => isB C "isinstance" x && isB C (tyS t) y && chkE C a a0 | _ => false)
  | .isi2 a t u, e0 => (match e0 with | .Call (.Name x _) [a0, .Tuple [.Name y _, .Name z _] _ _] [] _ => isB C "isinstance" x && isB C (tyS t) y && isB C (tyS u) z && chkE C a a0 | _ => false)
  | .blt1 f a, e0 => (match e0 with | .Call (.Name x _) [a0] [] _ => isB C (nmB1 f) x && chkE C a a0 | _ => false)
  | .blt2 f a b, e0 => (match e0 with | .Call (.Name x _) [a0, b0] [] _ => isB C (nmB2 f) x && chkE C a a0 && chkE C b b0 | _ => false)
  | .lrng (.rng1 a), e0 => (match e0 with | .Call (.Name x _) [.Call (.Name y _) [a0] [] _] [] _ => isB C "list" x && isB C "range" y && chkE C a a0 | _ => false)
  | .lrng (.rng2 a b), e0 => (match e0 with | .Call (.Name x _) [.Call (.Name y _) [a0, b0] [] _] [] _ => isB C "list" x && isB C "range" y && chkE C a a0 && chkE C b b0 | _ => false)
  | .trg (.rng1 a), e0 => (match e0 with | .Call (.Name x _) [.Call (.Name y _) [a0] [] _] [] _ => isB C "tuple" x && isB C "range" y && chkE C a a0 | _ => false)
  | .trg (.rng2 a b), e0 => (match e0 with | .Call (.Name x _) [.Call (.Name y _) [a0, b0] [] _] [] _ => isB C "tuple" x && isB C "range" y && chkE C a a0 && chkE C b b0 | _ => false)
  | .meth m o a, e0 => (match e0 with | .Call (.Attribute o0 nm ap) [a0] [] pos => decide (nm = Str.ofString (nmMf m)) && (ap.endLine == pos.line) && notCall o0 && chkE C o o0 && chkE C a a0 | _ => false)
  | .dx o j a b, e0 => (match o with
    | .new => (match e0 with | .Dict [] [] _ => true | _ => false)
    | .isin => (match e0 with | .Compare a0 [.In] [.Name x _] _ => varC C j x && chkE C a a0 | _ => false)
    | .nin => (match e0 with | .Compare a0 [.NotIn] [.Name x _] _ => varC C j x && chkE C a a0 | _ => false)
    | .get => (match e0 with | .Subscript (.Name x _) a0 _ => varC C j x && notSl a0 && chkE C a a0 | _ => false)
    | .getd => (match e0 with | .Call (.Attribute (.Name x _) nm ap) [a0, b0] [] pos => (decide (nm = Str.ofString "get") && (ap.endLine == pos.line) && varC C j x) && chkE C a a0 && chkE C b b0 | _ => false)
    | .len => (match e0 with | .Call (.Name y _) [.Name x _] [] _ => isB C "len" y && varC C j x | _ => false)
    | .skeys => (match e0 with | .Call (.Name y _) [.Call (.Attribute (.Name x _) nm ap) [] [] cp] [] _ => (isB C "sorted" y && decide (nm = Str.ofString "keys")) && (ap.endLine == cp.line) && varC C j x | _ => false)
    | .keys => false)
  | .xt o j a b, e0 => chkX C o j a b (fun e => chkE C a e) (fun e => chkE C b e) e0
  | .comp2 el it t cond vs it2 t2 cond2 vs2, e0 => (match e0 with
    | .ListComp el0 [⟨tg, iter, ifs, 0⟩, ⟨tg2, iter2, ifs2, 0⟩] scope _ => (blkC C.N C.sc scope (ownC C vs) && tgC (blkK C scope) t tg && (slotsT t).all (fun j => decide (j ∈ vs)) && notSet iter && chkI C it tg iter && chkE (blkK C scope) el el0 &&
        (match ifs with | [] => isNil cond | [k] => !isNil cond && tstE cond && chkE (blkK C scope) cond k | _ => false)) &&
        (tgC (blkK C scope) t2 tg2 && vs2.all (fun j => decide (j ∈ vs)) && (slotsT t2).all (fun j => decide (j ∈ vs2)) && notSet iter2 && chkI (blkK C scope) it2 tg2 iter2 &&
        (match ifs2 with | [] => isNil cond2 | [k] => !isNil cond2 && tstE cond2 && chkE (blkK C scope) cond2 k | _ => false))
    | _ => false)
  | .fz _ e, e0 => chkE C e e0
  | _, _ => false
def chkA (C : Ck) : E → List Expr → Bool
  | .nil, es0 => (match es0 with | [] => true | _ => false)
  | .cons e es, es0 => (match es0 with | e0 :: r => chkE C e e0 && chkA C es r | _ => false)
  | _, _ => false
def chkI (C : Ck) : E → Expr → Expr → Bool
  | .seq e, _, e0 => chkE C e e0
  | .rng1 a, _, e0 => (match e0 with | .Call (.Name x _) [a0] [] _ => isB C "range" x && chkE C a a0 | _ => false)
  | .rng2 a b, _, e0 => (match e0 with | .Call (.Name x _) [a0, b0] [] _ => isB C "range" x && chkE C a a0 && chkE C b b0 | _ => false)
  | .kys a, _, e0 => (match e0 with | .Call (.Attribute (.Call (.Name f fp) (a0 :: es0) [] cp0) nm ap) [] [] cp => decide (nm = Str.ofString "keys") && (ap.endLine == cp.line) && chkE C a (.Call (.Name f fp) (a0 :: es0) [] cp0) | _ => false)
  | .dx .keys j _ _, _, e0 => (match e0 with | .Call (.Attribute (.Name x _) nm ap) [] [] cp => decide (nm = Str.ofString "keys") && (ap.endLine == cp.line) && varC C j x | _ => false)
  | .enum a, tg, e0 => (match tg with | .Tuple _ _ _ => (match e0 with | .Call (.Name x _) [a0] [] _ => isB C "enumerate" x && chkE C a a0 | _ => false) | _ => false)
  | .zip a b, tg, e0 => (match tg with | .Tuple _ _ _ => (match e0 with | .Call (.Name x _) [a0, b0] [] _ => isB C "zip" x && chkE C a a0 && chkE C b b0 | _ => false) | _ => false)
  | _, _, _ => false
end
structure Ok (c : FT) (k : Nat) (C : Ck) (X : Cx) : Prop where
  calm : X.calm = true
  N : X.N = C.N
  sc : X.env.scope = C.sc
  nd : C.N.Nodup
  room : Room k X.A
  rm : Room (k + 1) X.A
  fnb : X.fn = C.fnb
  cst : ∀ x d, C.cst x = some d → ∃ u v, X.mg x = some u ∧ RelV v u ∧ ∀ G, Dr G v d
  fn : ∀ x f io, C.fid x = some (f, io) → ∃ fa fd ps, X.mg x = some (.ref fa) ∧ PySem.W.keepIn X.K (.ref fa) = true ∧ Binds X.K fd ps [] ∧ FnOk X.prog X.w X.K X.mg X.base CX0 k fa fd ps (spF c f io)
  bl : ∀ x ∈ C.bl, X.mg x = none
  xs : ∀ x ∈ C.xs, ∃ v, X.mg x = some v
  tp : C.top = true → X.stack = X.env :: X.outer ∧ X.env.frame = some X.env.locals
  mt : ∀ m f, C.mid m = some f → ∃ fa fd ps, Cls X.K CA.a ∧ Meth X.K CA.a m fa ∧ Binds X.K fd ps [] ∧ FnOk X.prog X.w X.K X.mg X.base CX0 k fa fd ps (spF c f true)
  cl : C.cls = true → Cls X.K CA.a ∧ NoAttr X.K CA.a (Str.ofString "text") ∧ NoAttr X.K CA.a (Str.ofString "at") ∧ X.mg (Str.ofString "Reader") = some (.ref CA.a) ∧ PySem.W.makesIn X.K CA.a = true ∧ PySem.W.keepIn X.K (.ref CA.a) = true
section
variable {c : FT} {k : Nat} {C : Ck} {X : Cx}
theorem Ok.gl (ok : Ok c k C X) {x : Str} (h : glC C.sc x = true) : Gl X x := by
  show X.env.scope.names.lookup x = some .globalImplicit
  rw [ok.sc]
  unfold glC at h
  split at h
  · assumption
  · cases h
theorem Ok.vis (ok : Ok c k C X) {x : Str} (h : visC C.sc x = true) : Vis X.env.scope x := by
  unfold Vis
  rw [ok.sc]
  unfold visC at h
  split at h
  · exact .inl (by assumption)
  · exact .inr (.inl (by assumption))
  · exact .inr (.inr (by assumption))
  · cases h
theorem plain_dbg {x : Str} (h : plainN x = true) : (x == Str.ofString "__debug__") = false ∧ (x == Str.ofString "__classdict__") = false := by
  unfold plainN at h
  rw [Bool.and_eq_true, Bool.not_eq_true', Bool.not_eq_true'] at h
  exact h
theorem Ok.var (ok : Ok c k C X) {x : Str} {p : Pos} {i : Nat} (h : varC C i x = true) : PE X (.Name x p) (tVar i) := by
  unfold varC at h
  rw [Bool.and_eq_true, Bool.and_eq_true] at h
  have h1 : X.N[i]? = some x := by rw [ok.N]; exact of_decide_eq_true h.1.1
  exact pe_var h1 (ok.vis h.1.2) (plain_dbg h.2).1 (plain_dbg h.2).2
theorem Ok.b (ok : Ok c k C X) {x : Str} {n : String} (h : isB C n x = true) : x = Str.ofString n ∧ Gl X x ∧ X.mg x = none := by
  unfold isB at h
  rw [Bool.and_eq_true, Bool.and_eq_true] at h
  exact ⟨of_decide_eq_true h.1.1, ok.gl h.1.2, ok.bl x (of_decide_eq_true h.2)⟩
theorem Ok.const (ok : Ok c k C X) {x : Str} {p : Pos} {d : D} (h1 : glC C.sc x = true) (h2 : plainN x = true) (h3 : C.cst x = some d) : ∃ v, PE X (.Name x p) (tC v) ∧ ∀ G, Dr G v d := by
  obtain ⟨u, v, m, r, q⟩ := ok.cst x d h3
  exact ⟨v, pe_glob (ok.gl h1) m r (plain_dbg h2).1, q⟩
theorem Ok.sto (ok : Ok c k C X) {x : Str} {p : Pos} {i : Nat} (h : stoC C i x = true) : PG X (.Name x p) (gName i) := by
  unfold stoC at h
  rw [Bool.and_eq_true] at h
  have h1 : X.N[i]? = some x := by rw [ok.N]; exact of_decide_eq_true h.1
  have nd : X.N.Nodup := by rw [ok.N]; exact ok.nd
  have h2 := h.2
  split at h2
  · next e => exact pg_name nd h1 (.inl (by rw [ok.sc]; exact e)) (.inr (by rw [ok.sc]; exact e))
  · next e => exact pg_name nd h1 (.inr (by rw [ok.sc]; exact e)) (.inl (by rw [ok.fnb]; exact h2))
  · cases h2
theorem not_star : ∀ {e : E} {x : Expr} {p : Pos}, chkE C e (.Starred x p) = false := fun {e x p} => by
  cases e with
  | lrng it => cases it <;> rfl
  | trg it => cases it <;> rfl
  | fz js e => unfold chkE; exact not_star (e := e)
  | dx o j a b => cases o <;> rfl
  | callr f r es =>
    unfold chkE
    split
    · rfl
    · split
      · split
        · rfl
        · rfl
      · rfl
  | xt o j a b =>
    unfold chkE chkX
    cases o <;> first | rfl | (cases a <;> rfl)
  | _ => rfl
theorem chk_star {e : E} {e0 : Expr} (h : chkE C e e0 = true) (r : List Expr) (env : Env) : starEach (e0 :: r) env = (false, eval e0 env) :: starEach r env := by
  cases e0 with
  | Starred x p => rw [not_star] at h; cases h
  | _ => rfl
theorem chk_any : ∀ {es : E} {es0 : List Expr}, chkA C es es0 = true → ∀ (pos : Pos) (env : Env), (backTo pos (starEach es0 env)).any (·.1) = false
  | es, [], _ => fun pos env => rfl
  | es, e0 :: r, h => fun pos env => by
    cases es with
    | cons e es =>
      unfold chkA at h
      rw [Bool.and_eq_true] at h
      rw [chk_star h.1]
      show (false || (backTo pos (starEach r env)).any (·.1)) = false
      rw [chk_any h.2 pos env]
      rfl
    | _ => cases h
theorem Ok.names (ok : Ok c k C X) : ∀ {is : List Nat} {es : List Expr}, namesC C is es = true → PGs X es (tPuts is) ∧ (assignEach es X.env).length = is.length ∧ (assignEach es X.env).findIdx? (·.1) = none
  | [], [], _ => ⟨g_nil, rfl, rfl⟩
  | [], _ :: _, h => by cases h
  | _ :: _, [], h => by cases h
  | i :: is, e :: es, h => by
    cases e with
    | Name x p =>
      unfold namesC at h
      rw [Bool.and_eq_true] at h
      obtain ⟨h1, h2, h3⟩ := ok.names h.2
      refine ⟨g_cons (ok.sto h.1) h1 rfl, ?_, ?_⟩
      · show (assignEach es X.env).length + 1 = is.length + 1
        rw [h2]
      · show List.findIdx? (·.1) ((false, assign (.Name x p) X.env) :: assignEach es X.env) = none
        rw [List.findIdx?_cons, if_neg Bool.false_ne_true, h3]
        rfl
    | _ => cases h
theorem Ok.tg (ok : Ok c k C X) {t : Tg} {e : Expr} (h : tgC C t e = true) : PG X e (tTg t) := by
  unfold tgC at h
  cases t with
  | one i =>
    cases e with
    | Name x p => exact g_one (ok.sto h)
    | _ => cases h
  | many is =>
    cases e with
    | Tuple es n p =>
      obtain ⟨h1, h2, h3⟩ := ok.names h
      exact g_many ok.calm h1 h2 h3
    | _ => cases h
/-- within a comprehension's block -/
theorem Ok.blk (ok : Ok c k C X) {scope : Scope} (s : Shared) (H : Hp) (a : Addr) (cl : List (Str × Addr)) (fp : List Addr) : Ok c k (blkK C scope) (X.blk s H scope (compEnvC scope cl a X.env) fp) where
  calm := ok.calm
  N := ok.N
  sc := by
    show relabel scope X.env = relS scope C.sc
    rw [← ok.sc]
    rfl
  nd := ok.nd
  room := ok.room
  rm := ok.rm
  fnb := rfl
  cst := ok.cst
  fn := ok.fn
  bl := ok.bl
  mt := ok.mt
  cl := ok.cl
  xs := ok.xs
  tp := fun z => nomatch z
theorem mthN_ok {m : Str} (h : mthN m = true) : m ≠ Str.ofString "text" ∧ m ≠ Str.ofString "at" := by
  unfold mthN at h
  rw [Bool.and_eq_true, Bool.not_eq_true', Bool.not_eq_true'] at h
  exact ⟨of_decide_eq_false h.1, of_decide_eq_false h.2⟩
theorem and3 {a b d : Bool} (h : (a && b && d) = true) : a = true ∧ b = true ∧ d = true := by
  rw [Bool.and_eq_true, Bool.and_eq_true] at h
  exact ⟨h.1.1, h.1.2, h.2⟩
theorem and2 {a b : Bool} (h : (a && b) = true) : a = true ∧ b = true := by rwa [Bool.and_eq_true] at h
theorem base_plain {o0 : Expr} (h : notCall o0 = true) (nm : Str) (env : Env) (whole : Sem Value) : attributeBase o0 nm env whole = whole := by
  cases o0 with
  | Call g as ks p => cases as with
    | nil => cases h
    | cons x xs => cases g <;> rfl
  | _ => rfl
/-- the further operations -/
theorem sX {o : Xo} {j : Nat} {a b : E} {C : Ck} {X : Cx} {e0 : Expr} (ok : Ok c k C X) (h : chkX C o j a b (fun e => chkE C a e) (fun e => chkE C b e) e0 = true) (ia : ∀ e, chkE C a e = true → PE X e (tE c a)) (ib : ∀ e, chkE C b e = true → PE X e (tE c b)) : PE X e0 (tE c (.xt o j a b)) := by
  unfold chkX at h
  cases o with
  | knew =>
    dsimp only at h
    split at h
    · exact s_knew
    · cases h
  | kin =>
    dsimp only at h
    split at h
    · obtain ⟨h1, h2⟩ := and2 h
      exact s_kin ok.room (ia _ h2) (ok.var h1)
    · cases h
  | knin =>
    dsimp only at h
    split at h
    · obtain ⟨h1, h2⟩ := and2 h
      exact s_knin ok.room (ia _ h2) (ok.var h1)
    · cases h
  | kget =>
    dsimp only at h
    split at h
    · obtain ⟨h1, h2, h3⟩ := and3 h
      refine s_kget ok.room ?_ (ia _ h3) (ok.var h1)
      next i0 _ => cases i0 <;> first | exact fun _ _ => rfl | cases h2
    · cases h
  | kgetd =>
    dsimp only at h
    split at h
    · obtain ⟨h0, h4, h5⟩ := and3 h
      obtain ⟨h1, h2, h3⟩ := and3 h0
      have e := of_decide_eq_true h1
      subst e
      exact s_kgetd ok.room ⟨rfl, by rw [chk_star h4, chk_star h5]; rfl, h2, by rw [chk_star h4, chk_star h5]; rfl⟩ (ia _ h4) (ib _ h5) (ok.var h3)
    · cases h
  | kskeys =>
    dsimp only at h
    split at h
    · obtain ⟨h0, h2, h3⟩ := and3 h
      obtain ⟨h0, h1⟩ := and2 h0
      obtain ⟨rfl, g1, m1⟩ := ok.b h0
      have e := of_decide_eq_true h1
      subst e
      exact s_kskeys ok.calm g1 m1 (base_plain rfl _ _ _) h2 (ok.var h3)
    · cases h
  | trep y z =>
    dsimp only at h
    split at h
    · split at h
      · obtain ⟨h0, h1, h4⟩ := and3 h
        obtain ⟨g1, g2, g3⟩ := and3 h0
        obtain ⟨g4, g5, g6⟩ := and3 h1
        have q1 := of_decide_eq_true g1
        have q4 := of_decide_eq_true g4
        have q5 := of_decide_eq_true g5
        subst q1 q4 q5
        exact s_trep (ib _ h4) (of_decide_eq_true g2) (by simpa using g6) g3
      · cases h
    · cases h
  | fget =>
    dsimp only at h
    split at h
    · next f =>
      split at h
      · obtain ⟨h, h4⟩ := and2 h
        obtain ⟨h1, h2, h3⟩ := and3 h
        have e := of_decide_eq_true h2
        subst e
        refine s_fget ?_ (ok.var h1) (base_plain rfl _ _ _)
        obtain ⟨k1, k2, k3, _⟩ := ok.cl h4
        rw [Bool.or_eq_true] at h3
        rcases h3 with h3 | h3
        · rw [of_decide_eq_true h3]; exact ⟨k1, k2⟩
        · rw [of_decide_eq_true h3]; exact ⟨k1, k3⟩
      · cases h
    · cases h
  | tjoin =>
    dsimp only at h
    split at h
    · obtain ⟨h0, h4, h5⟩ := and3 h
      obtain ⟨h1, h2⟩ := and2 h0
      have e := of_decide_eq_true h1
      subst e
      exact s_tjoin (ia _ h4) (ib _ h5) (by rw [chk_star h5]; rfl) rfl h2
    · cases h
  | m2 =>
    dsimp only at h
    split at h
    · obtain ⟨h0, h4, h5⟩ := and3 h
      obtain ⟨h1, h2, h3⟩ := and3 h0
      refine s_m2 (ok.var h1) (ia _ h4) (ib _ h5) ?_ ?_
      · next i0 _ _ _ => cases i0 <;> first | exact fun _ _ => rfl | cases h2
      · next i0 _ => cases i0 <;> first | exact fun _ _ => rfl | cases h3
    · cases h
  | mtt =>
    dsimp only at h
    split at h
    · split at h
      · next i _ t1 p1 t2 p2 y p3 p4 y2 p5 x p6 scope p7 p8 =>
        obtain ⟨hA, hB⟩ := and2 h
        obtain ⟨h1, h2, h3⟩ := and3 hA
        obtain ⟨h4, h5, h6⟩ := and3 hB
        obtain ⟨rfl, g1, m1⟩ := ok.b h1
        have nd : X.N.Nodup := by rw [ok.N]; exact ok.nd
        have hb : BlkOk X.N X.env.scope scope (ownC C [i]) := by rw [ok.N, ok.sc]; exact blkOk_by h3
        have e2 : t2 = Str.ofString "tuple" := by
          unfold isB at h5
          exact of_decide_eq_true (and3 h5).1
        subst e2
        have go := pe_lc (X := X) (pos := p7) ok.calm nd (pi_list (tg := .Name y2 p5) (ok.var (p := p6) h2)) hb (fun s H a cl fp => (ok.blk (scope := scope) s H a cl fp).sto h4)
          (fun s H a cl fp => pts_nil) (fun s H a cl fp => pe_callTy (T := "tuple") (r := rTupF X.K) (p := p2) (pos := p4) (call_tupF (X := X.blk s H scope (compEnvC scope cl a X.env) fp)) ((ok.blk (scope := scope) s H a cl fp).b h5).2.1 ((ok.blk (scope := scope) s H a cl fp).b h5).2.2 (by decide +kernel) (a_one rfl ((ok.blk (scope := scope) s H a cl fp).var (p := p3) h6)) (by decide +kernel) (by decide +kernel) rfl rfl) (fun x => rfl)
        have go2 := pe_callTy (T := "tuple") (r := rTupF X.K) (p := p1) (pos := p8) (call_tupF (X := X)) g1 m1 (by decide +kernel) (a_one rfl go) (by decide +kernel) (by decide +kernel) rfl rfl
        have hN : X.N[i]? = some y2 := by
          unfold stoC at h4
          rw [Bool.and_eq_true] at h4
          rw [ok.N]
          exact of_decide_eq_true h4.1
        exact ⟨fun pins s σ H Q I q => go2.run pins s σ H Q I (mtt_rd (by rw [I.len]; exact (List.getElem?_eq_some_iff.mp hN).1) q)⟩
      · cases h
    · cases h
theorem sXT {o : Xo} {j : Nat} {a b : E} {C : Ck} {X : Cx} {e0 : Expr} (ok : Ok c k C X) (h : chkX C o j a b (fun e => chkE C a e) (fun e => chkE C b e) e0 = true) (ia : ∀ e, chkE C a e = true → PE X e (tE c a)) (ib : ∀ e, chkE C b e = true → PE X e (tE c b)) : PT X e0 (tT c (.xt o j a b)) := by
  have g := sX ok h ia ib
  unfold chkX at h
  cases o with
  | knew => exact ⟨fun _ _ _ _ _ _ ⟨G, ρ, sv, b, ρ', R, e, z, q⟩ => by unfold ev at e; cases e; cases z⟩
  | kin =>
    dsimp only at h
    split at h
    · obtain ⟨h1, h2⟩ := and2 h
      exact t_kin ok.room (ia _ h2) (ok.var h1)
    · cases h
  | knin =>
    dsimp only at h
    split at h
    · obtain ⟨h1, h2⟩ := and2 h
      exact t_knin ok.room (ia _ h2) (ok.var h1)
    · cases h
  | kget =>
    dsimp only at h
    split at h
    · exact sT_plain g fun _ => rfl
    · cases h
  | kgetd =>
    dsimp only at h
    split at h
    · exact sT_plain g fun _ => rfl
    · cases h
  | kskeys =>
    dsimp only at h
    split at h
    · exact sT_plain g fun _ => rfl
    · cases h
  | trep _ _ =>
    dsimp only at h
    split at h
    · split at h
      · exact sT_plain g fun _ => rfl
      · cases h
    · cases h
  | fget =>
    dsimp only at h
    split at h
    · split at h
      · exact sT_plain g fun _ => rfl
      · cases h
    · cases h
  | tjoin =>
    dsimp only at h
    split at h
    · exact sT_plain g fun _ => rfl
    · cases h
  | m2 =>
    dsimp only at h
    split at h
    · exact sT_plain g fun _ => rfl
    · cases h
  | mtt =>
    dsimp only at h
    split at h
    · split at h
      · exact sT_plain g fun _ => rfl
      · cases h
    · cases h
mutual
theorem sE : ∀ (e : E) (C : Ck) (X : Cx) (e0 : Expr), Ok c k C X → chkE C e e0 = true → PE X e0 (tE c e)
  | .var i, C, X, e0, ok, h => by
    unfold chkE at h
    split at h
    · exact s_var (ok.var h)
    · cases h
  | .non, C, X, e0, ok, h => by
    unfold chkE at h
    split at h
    · exact s_const pe_non (fun _ => .non) fun _ => rfl
    · cases h
  | .dc0, C, X, e0, ok, h => by
    unfold chkE at h
    split at h
    · exact s_dc0
    · cases h
  | .lset a, C, X, e0, ok, h => by
    unfold chkE at h
    split at h
    · obtain ⟨h1, h2, h3⟩ := and3 h
      obtain ⟨rfl, g1, m1⟩ := ok.b h1
      obtain ⟨rfl, g2, m2⟩ := ok.b h2
      refine s_lset ok.room ok.calm g1 m1 g2 m2 (chk_star h3 _ _) (fun j ej => ?_) (sE a C X _ ok h3)
      subst ej
      unfold chkE at h3
      split at h3
      · exact ok.var h3
      · cases h3
    · cases h
  | .ten a, C, X, e0, ok, h => by
    unfold chkE at h
    split at h
    · obtain ⟨h1, h2, h3⟩ := and3 h
      obtain ⟨rfl, g1, m1⟩ := ok.b h1
      obtain ⟨rfl, g2, m2⟩ := ok.b h2
      refine s_ten ok.calm g1 m1 g2 m2 (chk_star h3 _ _) (fun j ej => ?_) (sE a C X _ ok h3)
      subst ej
      unfold chkE at h3
      split at h3
      · exact ok.var h3
      · cases h3
    · cases h
  | .sst a, C, X, e0, ok, h => by
    unfold chkE at h
    split at h
    · obtain ⟨h1, h2, h3⟩ := and3 h
      obtain ⟨rfl, g1, m1⟩ := ok.b h1
      obtain ⟨rfl, g2, m2⟩ := ok.b h2
      refine s_sst ok.calm g1 m1 g2 m2 (chk_star h3 _ _) (fun j ej => ?_) (sE a C X _ ok h3)
      subst ej
      unfold chkE at h3
      split at h3
      · exact ok.var h3
      · cases h3
    · cases h
  | .d1 k v, C, X, e0, ok, h => by
    unfold chkE at h
    split at h
    · obtain ⟨h1, h2⟩ := and2 h
      exact s_d1 ok.room (sE k C X _ ok h1) (sE v C X _ ok h2)
    · cases h
  | .vsum a, C, X, e0, ok, h => by
    unfold chkE at h
    split at h
    · obtain ⟨h1, h2, h3⟩ := and3 h
      obtain ⟨rfl, g1, m1⟩ := ok.b h1
      have e := of_decide_eq_true h2
      subst e
      obtain ⟨h4, h5⟩ := and2 h3
      exact s_vsum ok.calm g1 m1 rfl h4 (sE a C X _ ok h5)
    · cases h
  | .kys _, _, _, _, _, h => by unfold chkE at h; cases h
  | .cme j, C, X, e0, ok, h => by
    unfold chkE at h
    split at h
    · obtain ⟨h1, h2⟩ := and2 h
      exact s_cme ok.room (by simpa using h2) (ok.var h1) (s_lst a_nil)
    · cases h
  | .cmn j, C, X, e0, ok, h => by
    unfold chkE at h
    split at h
    · obtain ⟨h1, h2⟩ := and2 h
      exact s_cmn ok.room (by simpa using h2) (ok.var h1) (s_lst a_nil)
    · cases h
  | .bl b, C, X, e0, ok, h => by
    unfold chkE at h
    split at h
    · have e := of_decide_eq_true h
      subst e
      exact s_const pe_bl (fun _ => .bl _) fun _ => rfl
    · cases h
  | .int i, C, X, e0, ok, h => by
    unfold chkE at h
    split at h
    · have e := of_decide_eq_true h
      subst e
      exact s_const pe_int (fun _ => .int _) fun _ => rfl
    · obtain ⟨h1, h2, h3⟩ := and3 h
      split at h3
      · next e =>
        have e2 := of_decide_eq_true h3
        subst e2
        obtain ⟨v, hv, q⟩ := ok.const h1 h2 e
        exact s_const hv q fun _ => rfl
      · cases h3
    · cases h
  | .str s, C, X, e0, ok, h => by
    unfold chkE at h
    split at h
    · have e := of_decide_eq_true h
      subst e
      exact s_const pe_str (fun _ => .str _) fun _ => rfl
    · obtain ⟨h1, h2, h3⟩ := and3 h
      split at h3
      · next e =>
        have e2 := of_decide_eq_true h3
        subst e2
        obtain ⟨v, hv, q⟩ := ok.const h1 h2 e
        exact s_const hv q fun _ => rfl
      · cases h3
    · cases h
  | .op o a b, C, X, e0, ok, h => by
    unfold chkE at h
    split at h
    · obtain ⟨h1, h2, h3⟩ := and3 h
      have e := opC_is h1
      subst e
      exact s_op (sE a C X _ ok h2) (sE b C X _ ok h3)
    · cases h
  | .neg a, C, X, e0, ok, h => by
    unfold chkE at h
    split at h
    · exact s_neg (sE a C X _ ok h)
    · cases h
  | .not a, C, X, e0, ok, h => by
    unfold chkE at h
    split at h
    · exact s_not (sE a C X _ ok h)
    · cases h
  | .and a b, C, X, e0, ok, h => by
    unfold chkE at h
    split at h
    · obtain ⟨h1, h2⟩ := and2 h
      exact s_and (sE a C X _ ok h1) (pe_one (sE b C X _ ok h2))
    · obtain ⟨h1, h2⟩ := and2 h
      exact s_and (sE a C X _ ok h1) (sE b C X _ ok h2)
    · cases h
  | .or a b, C, X, e0, ok, h => by
    unfold chkE at h
    split at h
    · obtain ⟨h1, h2⟩ := and2 h
      exact s_or (sE a C X _ ok h1) (pe_one (sE b C X _ ok h2))
    · obtain ⟨h1, h2⟩ := and2 h
      exact s_or (sE a C X _ ok h1) (sE b C X _ ok h2)
    · cases h
  | .ife d a b, C, X, e0, ok, h => by
    unfold chkE at h
    split at h
    · obtain ⟨h0, h3⟩ := and2 h
      obtain ⟨h0, h1, h2⟩ := and3 h0
      exact s_ife (sT d C X _ ok h1 h0) (sE a C X _ ok h2) (sE b C X _ ok h3)
    · cases h
  | .isn a, C, X, e0, ok, h => by
    unfold chkE at h
    split at h
    · exact s_isn (sE a C X _ ok h)
    · cases h
  | .isnt a, C, X, e0, ok, h => by
    unfold chkE at h
    split at h
    · exact s_isnt (sE a C X _ ok h)
    · cases h
  | .cmp o a b, C, X, e0, ok, h => by
    unfold chkE at h
    split at h
    · obtain ⟨h0, h3⟩ := and2 h
      obtain ⟨h1, h2, h4⟩ := and3 h0
      have e := cmC_is h1
      subst e
      refine s_cmp ok.room (by simpa using h2) (sE a C X _ ok h4) (fun j ej => ?_) (sE b C X _ ok h3)
      subst ej
      unfold chkE at h3
      split at h3
      · exact ok.var h3
      · cases h3
    · cases h
  | .chain o q a b d, C, X, e0, ok, h => by
    unfold chkE at h
    split at h
    · obtain ⟨h0, h5, h6⟩ := and3 h
      obtain ⟨h0, h3, h4⟩ := and3 h0
      obtain ⟨h1, h2⟩ := and2 h0
      have e := cmC_is h1
      have e2 := cmC_is h2
      subst e e2
      exact s_chain ok.room (by simpa using h3) (sE a C X _ ok h4) (sE b C X _ ok h5) (sE d C X _ ok h6)
    · cases h
  | .tup es, C, X, e0, ok, h => by
    unfold chkE at h
    split at h
    · exact s_tup (sA es C X _ ok h)
    · cases h
  | .lst es, C, X, e0, ok, h => by
    unfold chkE at h
    split at h
    · exact s_lst (sA es C X _ ok h)
    · cases h
  | .idx a i, C, X, e0, ok, h => by
    unfold chkE at h
    split at h
    · obtain ⟨h1, h2, h3⟩ := and3 h
      refine s_idx (fun j ej => ?_) (sE a C X _ ok h2) (sE i C X _ ok h3) ?_
      · subst ej
        unfold chkE at h2
        split at h2
        · exact ok.var h2
        · cases h2
      · next i0 _ => cases i0 <;> first | exact fun _ _ => rfl | cases h1
    · cases h
  | .slice a lo hi, C, X, e0, ok, h => by
    unfold chkE at h
    split at h
    · obtain ⟨h1, h2, h3⟩ := and3 h
      refine s_slice (fun j ej => ?_) (sE a C X _ ok h1) ?_ ?_
      · subst ej
        unfold chkE at h1
        split at h1
        · exact ok.var h1
        · cases h1
      · split at h2
        · exact o_none h2
        · obtain ⟨h4, h5⟩ := and2 h2
          exact o_some (by simpa using h4) (sE lo C X _ ok h5)
      · split at h3
        · exact o_none h3
        · obtain ⟨h4, h5⟩ := and2 h3
          exact o_some (by simpa using h4) (sE hi C X _ ok h5)
    · cases h
  | .rev a, C, X, e0, ok, h => by
    unfold chkE at h
    split at h
    · refine s_rev (fun j ej => ?_) (sE a C X _ ok h)
      subst ej
      unfold chkE at h
      split at h
      · exact ok.var h
      · cases h
    · cases h
  | .comp el it t cond vs, C, X, e0, ok, h => by
    unfold chkE at h
    split at h
    · next el0 tg iter ifs scope pos =>
      obtain ⟨h0, h6, h7⟩ := and3 h
      obtain ⟨h0, h4, h5⟩ := and3 h0
      obtain ⟨h1, h2, h3⟩ := and3 h0
      have nd : X.N.Nodup := by rw [ok.N]; exact ok.nd
      have eo : (ownC C vs).map (·.2) = vs := by
        unfold ownC
        rw [List.map_map]
        exact List.map_id vs
      have hb : BlkOk X.N X.env.scope scope (ownC C vs) := by rw [ok.N, ok.sc]; exact blkOk_by h1
      have go := pe_lc (X := X) (pos := pos) ok.calm nd (sI it C X _ _ ok h5) hb (fun s H a cl fp => (ok.blk (scope := scope) s H a cl fp).tg h2)
        (tt := tK c cond) (ifs := ifs) (fun s H a cl fp => ?_) (fun s H a cl fp => sD (sE el _ _ _ (ok.blk (scope := scope) s H a cl fp) h6)) (fun x => ?_)
      · rw [eo] at go
        exact PE.le go fun σ H Q q => comp_rd (fun j hj => of_decide_eq_true (List.all_eq_true.mp h3 j hj)) q
      · split at h7
        · exact k_none h7
        · obtain ⟨h8, h9, h10⟩ := and3 h7
          exact k_some (by simpa using h8) (sT cond _ _ _ (ok.blk (scope := scope) s H a cl fp) h10 h9)
        · cases h7
      · cases iter <;> first | rfl | cases h4
    · cases h
  | .call f es, C, X, e0, ok, h => by
    unfold chkE at h
    split at h
    · obtain ⟨h0, h3, h4⟩ := and3 h
      obtain ⟨h1, h2⟩ := and2 h0
      obtain ⟨fa, fd, ps, m, kp, b, F⟩ := ok.fn _ _ _ (of_decide_eq_true h3)
      next es0 _ =>
      cases es0 with
      | nil =>
        cases es with
        | nil => exact s_call0 F ok.room (ok.gl h1) m kp b (plain_dbg h2).1
        | cons _ _ => cases h4
        | _ => cases h4
      | cons e1 r =>
        cases es with
        | cons e2 es =>
          have h5 := h4
          unfold chkA at h5
          obtain ⟨h6, h7⟩ := and2 h5
          exact s_call F ok.room (ok.gl h1) m kp b (sA (.cons e2 es) C X _ ok h4) (plain_dbg h2).1 (chk_star h6 _ _) (chk_any h7 _ _)
        | _ => cases h4
    · cases h
  | .pop j, C, X, e0, ok, h => by
    unfold chkE at h
    split at h
    · obtain ⟨h1, h2, h3⟩ := and3 h
      have eq := of_decide_eq_true h2
      subst eq
      exact s_pop (pe_bm0 PySem.F.plainAttrs_list PySem.F.slot_list_pop PySem.F.type_list_pop mt_pop (ok.var h1) rfl h3)
    · cases h
  | .ln f j, C, X, e0, ok, h => by
    unfold chkE at h
    split at h
    · obtain ⟨h0, h3, h4⟩ := and3 h
      obtain ⟨h1, h2⟩ := and2 h0
      obtain ⟨fa, fd, ps, m, kp, b, F⟩ := ok.fn _ _ _ (of_decide_eq_true h3)
      exact s_ln F ok.room (ok.gl h1) m kp b (ok.var h4) a_nil (plain_dbg h2).1
    · cases h
  | .callr f r es, C, X, e0, ok, h => by
    unfold chkE at h
    by_cases ho : isOb f = true
    · rw [if_pos ho] at h
      split at h
      · next y p2 m ap pos =>
        obtain ⟨h0, h1, h2⟩ := and3 h
        obtain ⟨h3, h4⟩ := and2 h0
        obtain ⟨h5, h6⟩ := and2 h1
        obtain ⟨n1, n2⟩ := mthN_ok h6
        obtain ⟨fa, fd, ps, q2, q3, q4, F⟩ := ok.mt _ _ (of_decide_eq_true h3)
        have en : es = .nil := by cases es <;> first | rfl | cases h4
        subst en
        exact s_callO0 F ok.room q2 q3 n1 n2 q4 (ok.var h2) (base_plain rfl _ _ _) h5 ho
      · next y p2 m ap b1 pos =>
        split at h
        · obtain ⟨h0, h1, h2⟩ := and3 h
          obtain ⟨h3, h4⟩ := and2 h0
          obtain ⟨h5, h6⟩ := and2 h1
          obtain ⟨n1, n2⟩ := mthN_ok h5
          obtain ⟨fa, fd, ps, q2, q3, q4, F⟩ := ok.mt _ _ (of_decide_eq_true h3)
          exact s_callO F ok.room q2 q3 n1 n2 q4 (ok.var h6) (sE _ C X _ ok h2) (base_plain rfl _ _ _) h4 (chk_star h2 _ _) ho
        · cases h
      · cases h
    rw [if_neg ho] at h
    by_cases hd : isDl f = true
    · rw [if_pos hd] at h
      cases es with
      | cons e1 es =>
        cases es with
        | cons e2 es =>
          cases es with
          | nil =>
            dsimp only at h
            split at h
            · obtain ⟨h0, h4, h5⟩ := and3 h
              obtain ⟨h1, h2, h3⟩ := and3 h0
              obtain ⟨h6, h7⟩ := and2 h5
              obtain ⟨fa, fd, ps, m, kp, b, F⟩ := ok.fn _ _ _ (of_decide_eq_true h3)
              exact s_callrD F ok.room (ok.gl h1) m kp b (ok.var h4) (sE e1 C X _ ok h6) (sE e2 C X _ ok h7) (plain_dbg h2).1 (fun es => chk_star h6 es _) (fun es => chk_star h7 es _) hd (by cases q : isOb f with | true => exact absurd q ho | false => rfl)
            · cases h
          | _ => cases h
        | _ => cases h
      | _ => cases h
    · rw [if_neg hd] at h
      split at h
      · obtain ⟨h0, h4, h5⟩ := and3 h
        obtain ⟨h1, h2, h3⟩ := and3 h0
        obtain ⟨fa, fd, ps, m, kp, b, F⟩ := ok.fn _ _ _ (of_decide_eq_true h3)
        exact s_callr F ok.room (ok.gl h1) m kp b (ok.var h4) (sA es C X _ ok h5) (plain_dbg h2).1 (chk_any h5 _ _) (by cases q : isDl f with | true => exact absurd q hd | false => rfl)
      · cases h
  | .isi a t, C, X, e0, ok, h => by
    unfold chkE at h
    split at h
    · obtain ⟨h1, h2, h3⟩ := and3 h
      obtain ⟨rfl, g1, m1⟩ := ok.b h1
      obtain ⟨rfl, g2, m2⟩ := ok.b h2
      exact s_isi g1 m1 g2 m2 (fun r => chk_star h3 r _) (sE a C X _ ok h3)
    · cases h
  | .isi2 a t u, C, X, e0, ok, h => by
    unfold chkE at h
    split at h
    · obtain ⟨h0, h3, h4⟩ := and3 h
      obtain ⟨h1, h2⟩ := and2 h0
      obtain ⟨rfl, g1, m1⟩ := ok.b h1
      obtain ⟨rfl, g2, m2⟩ := ok.b h2
      obtain ⟨rfl, g3, m3⟩ := ok.b h3
      exact s_isi2 g1 m1 g2 m2 g3 m3 (fun r => chk_star h4 r _) (sE a C X _ ok h4)
    · cases h
  | .blt1 f a, C, X, e0, ok, h => by
    unfold chkE at h
    split at h
    · obtain ⟨h1, h2⟩ := and2 h
      obtain ⟨rfl, g1, m1⟩ := ok.b h1
      refine s_blt1 ok.calm (by have := ok.room.un; omega) g1 m1 (chk_star h2 _ _) (fun j ej => ?_) (sE a C X _ ok h2)
      subst ej
      unfold chkE at h2
      split at h2
      · exact ok.var h2
      · cases h2
    · cases h
  | .blt2 f a b, C, X, e0, ok, h => by
    unfold chkE at h
    split at h
    · obtain ⟨h1, h2, h3⟩ := and3 h
      obtain ⟨rfl, g1, m1⟩ := ok.b h1
      exact s_blt2 ok.calm g1 m1 (chk_star h2 _ _) (chk_star h3 _ _) (by rw [chk_star h3]; rfl) (sE a C X _ ok h2) (sE b C X _ ok h3)
    · cases h
  | .meth m o a, C, X, e0, ok, h => by
    unfold chkE at h
    split at h
    · obtain ⟨h0, h4, h5⟩ := and3 h
      obtain ⟨h1, h2, h3⟩ := and3 h0
      have e := of_decide_eq_true h1
      subst e
      refine s_meth ok.room ok.calm ?_ ?_ h2 (chk_star h5 _ _) (fun j ej => ?_) (sE o C X _ ok h4) (sE a C X _ ok h5)
      · exact base_plain h3 _ _ _
      · rw [chk_star h5]; rfl
      · subst ej
        unfold chkE at h4
        split at h4
        · exact ok.var h4
        · cases h4
    · cases h
  | .nil, _, _, _, _, h => by unfold chkE at h; cases h
  | .cons _ _, _, _, _, _, h => by unfold chkE at h; cases h
  | .seq _, _, _, _, _, h => by unfold chkE at h; cases h
  | .rng1 _, _, _, _, _, h => by unfold chkE at h; cases h
  | .rng2 _ _, _, _, _, _, h => by unfold chkE at h; cases h
  | .enum _, _, _, _, _, h => by unfold chkE at h; cases h
  | .zip _ _, _, _, _, _, h => by unfold chkE at h; cases h
  | .xt o j a b, C, X, e0, ok, h => by
    unfold chkE at h
    exact sX ok h (fun e he => sE a C X e ok he) (fun e he => sE b C X e ok he)
  | .fz js e, C, X, e0, ok, h => by
    unfold chkE at h
    exact s_fz (sE e C X _ ok h)
  | .dx .new j a b, C, X, e0, ok, h => by
    unfold chkE at h
    dsimp only at h
    split at h
    · exact s_dnew
    · cases h
  | .dx .isin j a b, C, X, e0, ok, h => by
    unfold chkE at h
    dsimp only at h
    split at h
    · obtain ⟨h1, h2⟩ := and2 h
      exact s_din ok.room (sE a C X _ ok h2) (ok.var h1)
    · cases h
  | .dx .nin j a b, C, X, e0, ok, h => by
    unfold chkE at h
    dsimp only at h
    split at h
    · obtain ⟨h1, h2⟩ := and2 h
      exact s_dnin ok.room (sE a C X _ ok h2) (ok.var h1)
    · cases h
  | .dx .get j a b, C, X, e0, ok, h => by
    unfold chkE at h
    dsimp only at h
    split at h
    · obtain ⟨h1, h2, h3⟩ := and3 h
      refine s_dget ok.room ?_ (sE a C X _ ok h3) (ok.var h1)
      next i0 _ => cases i0 <;> first | exact fun _ _ => rfl | cases h2
    · cases h
  | .dx .getd j a b, C, X, e0, ok, h => by
    unfold chkE at h
    dsimp only at h
    split at h
    · obtain ⟨h0, h4, h5⟩ := and3 h
      obtain ⟨h1, h2, h3⟩ := and3 h0
      have e := of_decide_eq_true h1
      subst e
      exact s_dgetd ok.room ⟨rfl, by rw [chk_star h4, chk_star h5]; rfl, h2, by rw [chk_star h4, chk_star h5]; rfl⟩ (sE a C X _ ok h4) (sE b C X _ ok h5) (ok.var h3)
    · cases h
  | .dx .len j a b, C, X, e0, ok, h => by
    unfold chkE at h
    dsimp only at h
    split at h
    · obtain ⟨h1, h2⟩ := and2 h
      obtain ⟨rfl, g1, m1⟩ := ok.b h1
      exact s_dlen g1 m1 rfl (ok.var h2)
    · cases h
  | .dx .skeys j a b, C, X, e0, ok, h => by
    unfold chkE at h
    dsimp only at h
    split at h
    · obtain ⟨h0, h2, h3⟩ := and3 h
      obtain ⟨h0, h1⟩ := and2 h0
      obtain ⟨rfl, g1, m1⟩ := ok.b h0
      have e := of_decide_eq_true h1
      subst e
      exact s_skeys ok.room ok.calm g1 m1 (base_plain rfl _ _ _) h2 (ok.var h3)
    · cases h
  | .dx .keys j a b, C, X, e0, ok, h => by
    unfold chkE at h
    cases h
  | .comp2 el it t cond vs it2 t2 cond2 vs2, C, X, e0, ok, h => by
    unfold chkE at h
    split at h
    · next el0 tg iter ifs tg2 iter2 ifs2 scope pos =>
      obtain ⟨hA, hB⟩ := and2 h
      obtain ⟨h0, h6, h7⟩ := and3 hA
      obtain ⟨h0, h4, h5⟩ := and3 h0
      obtain ⟨h1, h2, h3⟩ := and3 h0
      obtain ⟨g0, g5, g6⟩ := and3 hB
      obtain ⟨g0, g3, g4⟩ := and3 g0
      obtain ⟨g1, g2⟩ := and2 g0
      have nd : X.N.Nodup := by rw [ok.N]; exact ok.nd
      have eo : (ownC C vs).map (·.2) = vs := by
        unfold ownC
        rw [List.map_map]
        exact List.map_id vs
      have hb : BlkOk X.N X.env.scope scope (ownC C vs) := by rw [ok.N, ok.sc]; exact blkOk_by h1
      have go := pe_lc2 (X := X) (pos := pos) (vs1 := vs2) ok.calm nd (sI it C X _ _ ok h5) hb (by rw [eo]; exact fun j hj => of_decide_eq_true (List.all_eq_true.mp g2 j hj)) (fun s H a cl fp => (ok.blk (scope := scope) s H a cl fp).tg h2)
        (tt := tK c cond) (ifs := ifs) (fun s H a cl fp => ?_) (fun s H a cl fp => sI it2 _ _ _ _ (ok.blk (scope := scope) s H a cl fp) g5) (fun s H a cl fp => (ok.blk (scope := scope) s H a cl fp).tg g1)
        (tt1 := tK c cond2) (ifs1 := ifs2) (fun s H a cl fp => ?_) (fun s H a cl fp => sD (sE el _ _ _ (ok.blk (scope := scope) s H a cl fp) h6)) (fun x => ?_) (fun env x => ?_)
      · rw [eo] at go
        exact PE.le go fun σ H Q q => comp2_rd (fun j hj => of_decide_eq_true (List.all_eq_true.mp h3 j hj)) (fun j hj => of_decide_eq_true (List.all_eq_true.mp g3 j hj)) (fun j hj => of_decide_eq_true (List.all_eq_true.mp g2 j hj)) q
      · split at h7
        · exact k_none h7
        · obtain ⟨h8, h9, h10⟩ := and3 h7
          exact k_some (by simpa using h8) (sT cond _ _ _ (ok.blk (scope := scope) s H a cl fp) h10 h9)
        · cases h7
      · split at g6
        · exact k_none g6
        · obtain ⟨h8, h9, h10⟩ := and3 g6
          exact k_some (by simpa using h8) (sT cond2 _ _ _ (ok.blk (scope := scope) s H a cl fp) h10 h9)
        · cases g6
      · cases iter <;> first | rfl | cases h4
      · cases iter2 <;> first | rfl | cases g4
    · cases h
  | .lrng (.rng1 a), C, X, e0, ok, h => by
    unfold chkE at h
    split at h
    · obtain ⟨h1, h2, h3⟩ := and3 h
      obtain ⟨rfl, g1, m1⟩ := ok.b h1
      obtain ⟨rfl, g2, m2⟩ := ok.b h2
      refine s_lrng ok.calm g1 m1 (prg_1 g2 m2 (sD (sE a C X _ ok h3)) (chk_star h3 _ _)) rfl fun σ H Q ⟨G, ρ, ds, ρ', R, e, hz, q⟩ => ?_
      unfold evi at e
      obtain ⟨sva, ρ1, dx, e1, z1, e⟩ := bz_some e
      have hx : ∃ n, dx = .int n := by cases dx <;> first | exact ⟨_, rfl⟩ | cases e
      obtain ⟨n, rfl⟩ := hx
      obtain ⟨hr, e⟩ := ite_some e
      cases e
      refine ⟨G, ρ, sva, _, _, R, e1, z1, fun x H1 G1 E1 R1 D1 => ?_⟩
      cases D1
      exact ⟨n, rfl, q 0 n H1 G1 E1 R1 rfl (by decide) hr⟩
    · cases h
  | .lrng (.rng2 a b), C, X, e0, ok, h => by
    unfold chkE at h
    split at h
    · obtain ⟨h0, h3, h4⟩ := and3 h
      obtain ⟨h1, h2⟩ := and2 h0
      obtain ⟨rfl, g1, m1⟩ := ok.b h1
      obtain ⟨rfl, g2, m2⟩ := ok.b h2
      refine s_lrng ok.calm g1 m1 (prg_2 g2 m2 (sD (sE a C X _ ok h3)) (sD (sE b C X _ ok h4)) (chk_star h3 _ _) (chk_star h4 _ _) (by rw [chk_star h4]; rfl)) rfl fun σ H Q ⟨G, ρ, ds, ρ', R, e, hz, q⟩ => ?_
      unfold evi at e
      obtain ⟨sva, ρ1, dx, e1, z1, e⟩ := bz_some e
      obtain ⟨svb, ρ2, dy, e2, z2, e⟩ := bz_some e
      have hx : ∃ n m, dx = .int n ∧ dy = .int m := by cases dx <;> cases dy <;> first | exact ⟨_, _, rfl, rfl⟩ | cases e
      obtain ⟨n, m, rfl, rfl⟩ := hx
      obtain ⟨hr, e⟩ := ite_some e
      cases e
      obtain ⟨r1, r2⟩ := and2 hr
      refine ⟨G, ρ, sva, _, _, R, e1, z1, fun x H1 G1 E1 R1 D1 => ⟨G1, _, svb, _, _, R1, e2, z2, fun y H2 G2 E2 R2 D2 => ?_⟩⟩
      cases D1
      cases D2
      exact ⟨n, m, rfl, rfl, q n m H2 G2 (E1.trans E2) R2 rfl r1 r2⟩
    · cases h
  | .lrng (.var _), _, _, _, _, h => by unfold chkE at h; cases h
  | .lrng .non, _, _, _, _, h => by unfold chkE at h; cases h
  | .lrng (.lset _), _, _, _, _, h => by unfold chkE at h; cases h
  | .lrng (.ten _), _, _, _, _, h => by unfold chkE at h; cases h
  | .lrng (.sst _), _, _, _, _, h => by unfold chkE at h; cases h
  | .lrng (.d1 _ _), _, _, _, _, h => by unfold chkE at h; cases h
  | .lrng (.vsum _), _, _, _, _, h => by unfold chkE at h; cases h
  | .lrng (.kys _), _, _, _, _, h => by unfold chkE at h; cases h
  | .lrng .dc0, _, _, _, _, h => by unfold chkE at h; cases h
  | .lrng (.cme _), _, _, _, _, h => by unfold chkE at h; cases h
  | .lrng (.cmn _), _, _, _, _, h => by unfold chkE at h; cases h
  | .lrng (.bl _), _, _, _, _, h => by unfold chkE at h; cases h
  | .lrng (.int _), _, _, _, _, h => by unfold chkE at h; cases h
  | .lrng (.str _), _, _, _, _, h => by unfold chkE at h; cases h
  | .lrng (.op _ _ _), _, _, _, _, h => by unfold chkE at h; cases h
  | .lrng (.neg _), _, _, _, _, h => by unfold chkE at h; cases h
  | .lrng (.not _), _, _, _, _, h => by unfold chkE at h; cases h
  | .lrng (.and _ _), _, _, _, _, h => by unfold chkE at h; cases h
  | .lrng (.or _ _), _, _, _, _, h => by unfold chkE at h; cases h
  | .lrng (.ife _ _ _), _, _, _, _, h => by unfold chkE at h; cases h
  | .lrng (.isn _), _, _, _, _, h => by unfold chkE at h; cases h
  | .lrng (.isnt _), _, _, _, _, h => by unfold chkE at h; cases h
  | .lrng (.cmp _ _ _), _, _, _, _, h => by unfold chkE at h; cases h
  | .lrng (.chain _ _ _ _ _), _, _, _, _, h => by unfold chkE at h; cases h
  | .lrng (.tup _), _, _, _, _, h => by unfold chkE at h; cases h
  | .lrng (.lst _), _, _, _, _, h => by unfold chkE at h; cases h
  | .lrng (.idx _ _), _, _, _, _, h => by unfold chkE at h; cases h
  | .lrng (.slice _ _ _), _, _, _, _, h => by unfold chkE at h; cases h
  | .lrng (.rev _), _, _, _, _, h => by unfold chkE at h; cases h
  | .lrng (.comp _ _ _ _ _), _, _, _, _, h => by unfold chkE at h; cases h
  | .lrng (.call _ _), _, _, _, _, h => by unfold chkE at h; cases h
  | .lrng (.pop _), _, _, _, _, h => by unfold chkE at h; cases h
  | .lrng (.ln _ _), _, _, _, _, h => by unfold chkE at h; cases h
  | .lrng (.callr _ _ _), _, _, _, _, h => by unfold chkE at h; cases h
  | .lrng (.isi _ _), _, _, _, _, h => by unfold chkE at h; cases h
  | .lrng (.isi2 _ _ _), _, _, _, _, h => by unfold chkE at h; cases h
  | .lrng (.blt1 _ _), _, _, _, _, h => by unfold chkE at h; cases h
  | .lrng (.blt2 _ _ _), _, _, _, _, h => by unfold chkE at h; cases h
  | .lrng (.lrng _), _, _, _, _, h => by unfold chkE at h; cases h
  | .lrng (.meth _ _ _), _, _, _, _, h => by unfold chkE at h; cases h
  | .lrng .nil, _, _, _, _, h => by unfold chkE at h; cases h
  | .lrng (.cons _ _), _, _, _, _, h => by unfold chkE at h; cases h
  | .lrng (.seq _), _, _, _, _, h => by unfold chkE at h; cases h
  | .lrng (.enum _), _, _, _, _, h => by unfold chkE at h; cases h
  | .lrng (.zip _ _), _, _, _, _, h => by unfold chkE at h; cases h
  | .lrng (.dx _ _ _ _), _, _, _, _, h => by unfold chkE at h; cases h
  | .lrng (.xt _ _ _ _), _, _, _, _, h => by unfold chkE at h; cases h
  | .lrng (.comp2 _ _ _ _ _ _ _ _ _), _, _, _, _, h => by unfold chkE at h; cases h
  | .lrng (.fz _ _), _, _, _, _, h => by unfold chkE at h; cases h
  | .lrng (.trg _), _, _, _, _, h => by unfold chkE at h; cases h
  | .trg (.rng1 a), C, X, e0, ok, h => by
    unfold chkE at h
    split at h
    · obtain ⟨h1, h2, h3⟩ := and3 h
      obtain ⟨rfl, g1, m1⟩ := ok.b h1
      obtain ⟨rfl, g2, m2⟩ := ok.b h2
      refine s_trg ok.calm g1 m1 (prg_1 g2 m2 (sD (sE a C X _ ok h3)) (chk_star h3 _ _)) rfl fun σ H Q ⟨G, ρ, ds, ρ', R, e, hz, q⟩ => ?_
      unfold evi at e
      obtain ⟨sva, ρ1, dx, e1, z1, e⟩ := bz_some e
      have hx : ∃ n, dx = .int n := by cases dx <;> first | exact ⟨_, rfl⟩ | cases e
      obtain ⟨n, rfl⟩ := hx
      obtain ⟨hr, e⟩ := ite_some e
      cases e
      refine ⟨G, ρ, sva, _, _, R, e1, z1, fun x H1 G1 E1 R1 D1 => ?_⟩
      cases D1
      exact ⟨n, rfl, q 0 n H1 G1 E1 R1 rfl (by decide) hr⟩
    · cases h
  | .trg (.rng2 a b), C, X, e0, ok, h => by
    unfold chkE at h
    split at h
    · obtain ⟨h0, h3, h4⟩ := and3 h
      obtain ⟨h1, h2⟩ := and2 h0
      obtain ⟨rfl, g1, m1⟩ := ok.b h1
      obtain ⟨rfl, g2, m2⟩ := ok.b h2
      refine s_trg ok.calm g1 m1 (prg_2 g2 m2 (sD (sE a C X _ ok h3)) (sD (sE b C X _ ok h4)) (chk_star h3 _ _) (chk_star h4 _ _) (by rw [chk_star h4]; rfl)) rfl fun σ H Q ⟨G, ρ, ds, ρ', R, e, hz, q⟩ => ?_
      unfold evi at e
      obtain ⟨sva, ρ1, dx, e1, z1, e⟩ := bz_some e
      obtain ⟨svb, ρ2, dy, e2, z2, e⟩ := bz_some e
      have hx : ∃ n m, dx = .int n ∧ dy = .int m := by cases dx <;> cases dy <;> first | exact ⟨_, _, rfl, rfl⟩ | cases e
      obtain ⟨n, m, rfl, rfl⟩ := hx
      obtain ⟨hr, e⟩ := ite_some e
      cases e
      obtain ⟨r1, r2⟩ := and2 hr
      refine ⟨G, ρ, sva, _, _, R, e1, z1, fun x H1 G1 E1 R1 D1 => ⟨G1, _, svb, _, _, R1, e2, z2, fun y H2 G2 E2 R2 D2 => ?_⟩⟩
      cases D1
      cases D2
      exact ⟨n, m, rfl, rfl, q n m H2 G2 (E1.trans E2) R2 rfl r1 r2⟩
    · cases h
  | .trg (.var _), _, _, _, _, h => by unfold chkE at h; cases h
  | .trg .non, _, _, _, _, h => by unfold chkE at h; cases h
  | .trg (.lset _), _, _, _, _, h => by unfold chkE at h; cases h
  | .trg (.ten _), _, _, _, _, h => by unfold chkE at h; cases h
  | .trg (.sst _), _, _, _, _, h => by unfold chkE at h; cases h
  | .trg (.d1 _ _), _, _, _, _, h => by unfold chkE at h; cases h
  | .trg (.vsum _), _, _, _, _, h => by unfold chkE at h; cases h
  | .trg (.kys _), _, _, _, _, h => by unfold chkE at h; cases h
  | .trg .dc0, _, _, _, _, h => by unfold chkE at h; cases h
  | .trg (.cme _), _, _, _, _, h => by unfold chkE at h; cases h
  | .trg (.cmn _), _, _, _, _, h => by unfold chkE at h; cases h
  | .trg (.bl _), _, _, _, _, h => by unfold chkE at h; cases h
  | .trg (.int _), _, _, _, _, h => by unfold chkE at h; cases h
  | .trg (.str _), _, _, _, _, h => by unfold chkE at h; cases h
  | .trg (.op _ _ _), _, _, _, _, h => by unfold chkE at h; cases h
  | .trg (.neg _), _, _, _, _, h => by unfold chkE at h; cases h
  | .trg (.not _), _, _, _, _, h => by unfold chkE at h; cases h
  | .trg (.and _ _), _, _, _, _, h => by unfold chkE at h; cases h
  | .trg (.or _ _), _, _, _, _, h => by unfold chkE at h; cases h
  | .trg (.ife _ _ _), _, _, _, _, h => by unfold chkE at h; cases h
  | .trg (.isn _), _, _, _, _, h => by unfold chkE at h; cases h
  | .trg (.isnt _), _, _, _, _, h => by unfold chkE at h; cases h
  | .trg (.cmp _ _ _), _, _, _, _, h => by unfold chkE at h; cases h
  | .trg (.chain _ _ _ _ _), _, _, _, _, h => by unfold chkE at h; cases h
  | .trg (.tup _), _, _, _, _, h => by unfold chkE at h; cases h
  | .trg (.lst _), _, _, _, _, h => by unfold chkE at h; cases h
  | .trg (.idx _ _), _, _, _, _, h => by unfold chkE at h; cases h
  | .trg (.slice _ _ _), _, _, _, _, h => by unfold chkE at h; cases h
  | .trg (.rev _), _, _, _, _, h => by unfold chkE at h; cases h
  | .trg (.comp _ _ _ _ _), _, _, _, _, h => by unfold chkE at h; cases h
  | .trg (.call _ _), _, _, _, _, h => by unfold chkE at h; cases h
  | .trg (.pop _), _, _, _, _, h => by unfold chkE at h; cases h
  | .trg (.ln _ _), _, _, _, _, h => by unfold chkE at h; cases h
  | .trg (.callr _ _ _), _, _, _, _, h => by unfold chkE at h; cases h
  | .trg (.isi _ _), _, _, _, _, h => by unfold chkE at h; cases h
  | .trg (.isi2 _ _ _), _, _, _, _, h => by unfold chkE at h; cases h
  | .trg (.blt1 _ _), _, _, _, _, h => by unfold chkE at h; cases h
  | .trg (.blt2 _ _ _), _, _, _, _, h => by unfold chkE at h; cases h
  | .trg (.trg _), _, _, _, _, h => by unfold chkE at h; cases h
  | .trg (.meth _ _ _), _, _, _, _, h => by unfold chkE at h; cases h
  | .trg .nil, _, _, _, _, h => by unfold chkE at h; cases h
  | .trg (.cons _ _), _, _, _, _, h => by unfold chkE at h; cases h
  | .trg (.seq _), _, _, _, _, h => by unfold chkE at h; cases h
  | .trg (.enum _), _, _, _, _, h => by unfold chkE at h; cases h
  | .trg (.zip _ _), _, _, _, _, h => by unfold chkE at h; cases h
  | .trg (.dx _ _ _ _), _, _, _, _, h => by unfold chkE at h; cases h
  | .trg (.xt _ _ _ _), _, _, _, _, h => by unfold chkE at h; cases h
  | .trg (.comp2 _ _ _ _ _ _ _ _ _), _, _, _, _, h => by unfold chkE at h; cases h
  | .trg (.fz _ _), _, _, _, _, h => by unfold chkE at h; cases h
  | .trg (.lrng _), _, _, _, _, h => by unfold chkE at h; cases h
theorem sT : ∀ (e : E) (C : Ck) (X : Cx) (e0 : Expr), Ok c k C X → chkE C e e0 = true → tstE e = true → PT X e0 (tT c e)
  | .not a, C, X, e0, ok, h, t => by
    unfold chkE at h
    split at h
    · exact t_not (sT a C X _ ok h (by unfold tstE at t; exact t))
    · cases h
  | .and a b, C, X, e0, ok, h, t => by
    unfold tstE at t
    obtain ⟨t1, t2⟩ := and2 t
    unfold chkE at h
    split at h
    · obtain ⟨h1, h2⟩ := and2 h
      exact t_and (sT a C X _ ok h1 t1) (t_one (sT b C X _ ok h2 t2))
    · obtain ⟨h1, h2⟩ := and2 h
      exact t_and (sT a C X _ ok h1 t1) (sT b C X _ ok h2 t2)
    · cases h
  | .or a b, C, X, e0, ok, h, t => by
    unfold tstE at t
    obtain ⟨t1, t2⟩ := and2 t
    unfold chkE at h
    split at h
    · obtain ⟨h1, h2⟩ := and2 h
      exact t_or (sT a C X _ ok h1 t1) (t_one (sT b C X _ ok h2 t2))
    · obtain ⟨h1, h2⟩ := and2 h
      exact t_or (sT a C X _ ok h1 t1) (sT b C X _ ok h2 t2)
    · cases h
  | .isn a, C, X, e0, ok, h, _ => by
    unfold chkE at h
    split at h
    · exact t_isn (sE a C X _ ok h)
    · cases h
  | .isnt a, C, X, e0, ok, h, _ => by
    unfold chkE at h
    split at h
    · exact t_isnt (sE a C X _ ok h)
    · cases h
  | .cmp o a b, C, X, e0, ok, h, _ => by
    unfold chkE at h
    split at h
    · obtain ⟨h0, h3⟩ := and2 h
      obtain ⟨h1, h2, h4⟩ := and3 h0
      have e := cmC_is h1
      subst e
      refine t_cmp ok.room (by simpa using h2) (sE a C X _ ok h4) (fun j ej => ?_) (sE b C X _ ok h3)
      subst ej
      unfold chkE at h3
      split at h3
      · exact ok.var h3
      · cases h3
    · cases h
  | .chain o q a b d, C, X, e0, ok, h, _ => by
    unfold chkE at h
    split at h
    · obtain ⟨h0, h5, h6⟩ := and3 h
      obtain ⟨h0, h3, h4⟩ := and3 h0
      obtain ⟨h1, h2⟩ := and2 h0
      have e := cmC_is h1
      have e2 := cmC_is h2
      subst e e2
      exact t_chain ok.room (by simpa using h3) (sE a C X _ ok h4) (sE b C X _ ok h5) (sE d C X _ ok h6)
    · cases h
  | .var i, C, X, e0, ok, h, _ => by
    have g := h
    unfold chkE at h
    split at h
    · exact sT_plain (s_var (ok.var h)) fun _ => rfl
    · cases h
  | .bl b, C, X, e0, ok, h, _ => by
    unfold chkE at h
    split at h
    · have e := of_decide_eq_true h
      subst e
      exact sT_plain (s_const pe_bl (fun _ => .bl _) fun _ => rfl) fun _ => rfl
    · cases h
  | .idx a i, C, X, e0, ok, h, _ => by
    have g := h
    unfold chkE at h
    split at h
    · obtain ⟨h1, h2, h3⟩ := and3 h
      refine sT_plain (s_idx (fun j ej => ?_) (sE a C X _ ok h2) (sE i C X _ ok h3) ?_) fun _ => rfl
      · subst ej
        unfold chkE at h2
        split at h2
        · exact ok.var h2
        · cases h2
      · next i0 _ => cases i0 <;> first | exact fun _ _ => rfl | cases h1
    · cases h
  | .call f es, C, X, e0, ok, h, _ => by
    unfold chkE at h
    split at h
    · obtain ⟨h0, h3, h4⟩ := and3 h
      obtain ⟨h1, h2⟩ := and2 h0
      obtain ⟨fa, fd, ps, m, kp, b, F⟩ := ok.fn _ _ _ (of_decide_eq_true h3)
      next es0 _ =>
      cases es0 with
      | nil =>
        cases es with
        | nil => exact sT_plain (s_call0 F ok.room (ok.gl h1) m kp b (plain_dbg h2).1) fun _ => rfl
        | cons _ _ => cases h4
        | _ => cases h4
      | cons e1 r =>
        cases es with
        | cons e2 es =>
          have h5 := h4
          unfold chkA at h5
          obtain ⟨h6, h7⟩ := and2 h5
          exact sT_plain (s_call F ok.room (ok.gl h1) m kp b (sA (.cons e2 es) C X _ ok h4) (plain_dbg h2).1 (chk_star h6 _ _) (chk_any h7 _ _)) fun _ => rfl
        | _ => cases h4
    · cases h
  | .pop j, C, X, e0, ok, h, _ => by
    unfold chkE at h
    split at h
    · obtain ⟨h1, h2, h3⟩ := and3 h
      have eq := of_decide_eq_true h2
      subst eq
      exact sT_plain (s_pop (pe_bm0 PySem.F.plainAttrs_list PySem.F.slot_list_pop PySem.F.type_list_pop mt_pop (ok.var h1) rfl h3)) fun _ => rfl
    · cases h
  | .ln f j, C, X, e0, ok, h, _ => by
    unfold chkE at h
    split at h
    · obtain ⟨h0, h3, h4⟩ := and3 h
      obtain ⟨h1, h2⟩ := and2 h0
      obtain ⟨fa, fd, ps, m, kp, b, F⟩ := ok.fn _ _ _ (of_decide_eq_true h3)
      exact sT_plain (s_ln F ok.room (ok.gl h1) m kp b (ok.var h4) a_nil (plain_dbg h2).1) fun _ => rfl
    · cases h
  | .callr f r es, C, X, e0, ok, h, _ => by
    have g := sE (.callr f r es) C X e0 ok h
    unfold chkE at h
    by_cases ho : isOb f = true
    · rw [if_pos ho] at h
      split at h
      · exact sT_plain g fun _ => rfl
      · exact sT_plain g fun _ => rfl
      · cases h
    rw [if_neg ho] at h
    by_cases hd : isDl f = true
    · rw [if_pos hd] at h
      cases es with
      | cons e1 es =>
        cases es with
        | cons e2 es =>
          cases es with
          | nil =>
            dsimp only at h
            split at h
            · obtain ⟨h0, h4, h5⟩ := and3 h
              obtain ⟨h1, h2, h3⟩ := and3 h0
              obtain ⟨h6, h7⟩ := and2 h5
              obtain ⟨fa, fd, ps, m, kp, b, F⟩ := ok.fn _ _ _ (of_decide_eq_true h3)
              exact sT_plain (s_callrD F ok.room (ok.gl h1) m kp b (ok.var h4) (sE e1 C X _ ok h6) (sE e2 C X _ ok h7) (plain_dbg h2).1 (fun es => chk_star h6 es _) (fun es => chk_star h7 es _) hd (by cases q : isOb f with | true => exact absurd q ho | false => rfl)) fun _ => rfl
            · cases h
          | _ => cases h
        | _ => cases h
      | _ => cases h
    · rw [if_neg hd] at h
      split at h
      · obtain ⟨h0, h4, h5⟩ := and3 h
        obtain ⟨h1, h2, h3⟩ := and3 h0
        obtain ⟨fa, fd, ps, m, kp, b, F⟩ := ok.fn _ _ _ (of_decide_eq_true h3)
        exact sT_plain (s_callr F ok.room (ok.gl h1) m kp b (ok.var h4) (sA es C X _ ok h5) (plain_dbg h2).1 (chk_any h5 _ _) (by cases q : isDl f with | true => exact absurd q hd | false => rfl)) fun _ => rfl
      · cases h
  | .isi a t, C, X, e0, ok, h, _ => by
    unfold chkE at h
    split at h
    · obtain ⟨h1, h2, h3⟩ := and3 h
      obtain ⟨rfl, g1, m1⟩ := ok.b h1
      obtain ⟨rfl, g2, m2⟩ := ok.b h2
      exact sT_plain (s_isi g1 m1 g2 m2 (fun r => chk_star h3 r _) (sE a C X _ ok h3)) fun _ => rfl
    · cases h
  | .isi2 a t u, C, X, e0, ok, h, _ => by
    unfold chkE at h
    split at h
    · obtain ⟨h0, h3, h4⟩ := and3 h
      obtain ⟨h1, h2⟩ := and2 h0
      obtain ⟨rfl, g1, m1⟩ := ok.b h1
      obtain ⟨rfl, g2, m2⟩ := ok.b h2
      obtain ⟨rfl, g3, m3⟩ := ok.b h3
      exact sT_plain (s_isi2 g1 m1 g2 m2 g3 m3 (fun r => chk_star h4 r _) (sE a C X _ ok h4)) fun _ => rfl
    · cases h
  | .ife _ _ _, _, _, _, _, _, t => by unfold tstE at t; cases t
  | .non, C, X, e0, ok, h, _ => ⟨fun _ _ _ _ _ _ ⟨G, ρ, sv, b, ρ', R, e, z, q⟩ => by unfold ev at e; cases e; cases z⟩
  | .lset a, C, X, e0, ok, h, _ => by
    have g := sE (.lset a) C X e0 ok h
    unfold chkE at h
    split at h
    · exact sT_plain g fun _ => rfl
    · cases h
  | .ten a, C, X, e0, ok, h, _ => by
    have g := sE (.ten a) C X e0 ok h
    unfold chkE at h
    split at h
    · exact sT_plain g fun _ => rfl
    · cases h
  | .sst a, C, X, e0, ok, h, _ => ⟨fun _ _ _ _ _ _ ⟨G, ρ, sv, b, ρ', R, e, z, q⟩ => by
    unfold ev at e
    obtain ⟨x, ρ1, e1, e⟩ := bd_some e
    obtain ⟨us, e2, e⟩ := ob_some e
    cases e
    cases z⟩
  | .d1 k v, C, X, e0, ok, h, _ => ⟨fun _ _ _ _ _ _ ⟨G, ρ, sv, b, ρ', R, e, z, q⟩ => by
    unfold ev at e
    obtain ⟨sva, ρ1, y, e1, z1, e⟩ := bz_some e
    obtain ⟨svb, ρ2, d, e2, z2, e⟩ := bz_some e
    obtain ⟨ks, e3, e⟩ := ob_some e
    cases e
    cases z⟩
  | .vsum a, C, X, e0, ok, h, _ => by
    have g := sE (.vsum a) C X e0 ok h
    unfold chkE at h
    split at h
    · exact sT_plain g fun _ => rfl
    · cases h
  | .kys _, _, _, _, _, h, _ => by unfold chkE at h; cases h
  | .dc0, C, X, e0, ok, h, _ => ⟨fun _ _ _ _ _ _ ⟨G, ρ, sv, b, ρ', R, e, z, q⟩ => by unfold ev at e; cases e; cases z⟩
  | .cme j, C, X, e0, ok, h, _ => by
    unfold chkE at h
    split at h
    · obtain ⟨h1, h2⟩ := and2 h
      exact t_cme ok.room (by simpa using h2) (ok.var h1) (s_lst a_nil)
    · cases h
  | .cmn j, C, X, e0, ok, h, _ => by
    unfold chkE at h
    split at h
    · obtain ⟨h1, h2⟩ := and2 h
      exact t_cmn ok.room (by simpa using h2) (ok.var h1) (s_lst a_nil)
    · cases h
  | .int _, C, X, e0, ok, h, _ => ⟨fun _ _ _ _ _ _ ⟨G, ρ, sv, b, ρ', R, e, z, q⟩ => by unfold ev at e; cases e; cases z⟩
  | .str _, C, X, e0, ok, h, _ => ⟨fun _ _ _ _ _ _ ⟨G, ρ, sv, b, ρ', R, e, z, q⟩ => by unfold ev at e; cases e; cases z⟩
  | .op o a b, C, X, e0, ok, h, _ => by
    unfold chkE at h
    split at h
    · obtain ⟨h1, h2, h3⟩ := and3 h
      have e := opC_is h1
      subst e
      exact sT_plain (s_op (sE a C X _ ok h2) (sE b C X _ ok h3)) fun _ => rfl
    · cases h
  | .neg a, C, X, e0, ok, h, _ => by
    unfold chkE at h
    split at h
    · exact sT_plain (s_neg (sE a C X _ ok h)) fun _ => rfl
    · cases h
  | .tup es, C, X, e0, ok, h, _ => by
    unfold chkE at h
    split at h
    · exact sT_plain (s_tup (sA es C X _ ok h)) fun _ => rfl
    · cases h
  | .lst es, C, X, e0, ok, h, _ => by
    unfold chkE at h
    split at h
    · exact sT_plain (s_lst (sA es C X _ ok h)) fun _ => rfl
    · cases h
  | .slice a lo hi, C, X, e0, ok, h, _ => by
    have g := sE (.slice a lo hi) C X e0 ok h
    unfold chkE at h
    split at h
    · exact sT_plain g fun _ => rfl
    · cases h
  | .rev a, C, X, e0, ok, h, _ => by
    have g := sE (.rev a) C X e0 ok h
    unfold chkE at h
    split at h
    · exact sT_plain g fun _ => rfl
    · cases h
  | .comp el it t cond vs, C, X, e0, ok, h, _ => by
    have g := sE (.comp el it t cond vs) C X e0 ok h
    unfold chkE at h
    split at h
    · exact sT_plain g fun _ => rfl
    · cases h
  | .blt1 f a, C, X, e0, ok, h, _ => by
    have g := sE (.blt1 f a) C X e0 ok h
    unfold chkE at h
    split at h
    · exact sT_plain g fun _ => rfl
    · cases h
  | .blt2 f a b, C, X, e0, ok, h, _ => by
    have g := sE (.blt2 f a b) C X e0 ok h
    unfold chkE at h
    split at h
    · exact sT_plain g fun _ => rfl
    · cases h
  | .meth m o a, C, X, e0, ok, h, _ => by
    have g := sE (.meth m o a) C X e0 ok h
    unfold chkE at h
    split at h
    · exact sT_plain g fun _ => rfl
    · cases h
  | .nil, _, _, _, _, h, _ => by unfold chkE at h; cases h
  | .cons _ _, _, _, _, _, h, _ => by unfold chkE at h; cases h
  | .seq _, _, _, _, _, h, _ => by unfold chkE at h; cases h
  | .rng1 _, _, _, _, _, h, _ => by unfold chkE at h; cases h
  | .rng2 _ _, _, _, _, _, h, _ => by unfold chkE at h; cases h
  | .enum _, _, _, _, _, h, _ => by unfold chkE at h; cases h
  | .zip _ _, _, _, _, _, h, _ => by unfold chkE at h; cases h
  | .xt o j a b, C, X, e0, ok, h, _ => by
    unfold chkE at h
    exact sXT ok h (fun e he => sE a C X e ok he) (fun e he => sE b C X e ok he)
  | .fz js e, C, X, e0, ok, h, t => by
    unfold chkE at h
    unfold tstE at t
    exact t_fz (sT e C X _ ok h t)
  | .dx .new j a b, C, X, e0, ok, h, _ => ⟨fun _ _ _ _ _ _ ⟨G, ρ, sv, b, ρ', R, e, z, q⟩ => by unfold ev at e; cases e; cases z⟩
  | .dx .isin j a b, C, X, e0, ok, h, _ => by
    unfold chkE at h
    dsimp only at h
    split at h
    · obtain ⟨h1, h2⟩ := and2 h
      exact t_din ok.room (sE a C X _ ok h2) (ok.var h1)
    · cases h
  | .dx .nin j a b, C, X, e0, ok, h, _ => by
    unfold chkE at h
    dsimp only at h
    split at h
    · obtain ⟨h1, h2⟩ := and2 h
      exact t_dnin ok.room (sE a C X _ ok h2) (ok.var h1)
    · cases h
  | .dx .get j a b, C, X, e0, ok, h, _ => by
    have g := sE (.dx .get j a b) C X e0 ok h
    unfold chkE at h
    dsimp only at h
    split at h
    · exact sT_plain g fun _ => rfl
    · cases h
  | .dx .getd j a b, C, X, e0, ok, h, _ => by
    have g := sE (.dx .getd j a b) C X e0 ok h
    unfold chkE at h
    dsimp only at h
    split at h
    · exact sT_plain g fun _ => rfl
    · cases h
  | .dx .len j a b, C, X, e0, ok, h, _ => by
    have g := sE (.dx .len j a b) C X e0 ok h
    unfold chkE at h
    dsimp only at h
    split at h
    · exact sT_plain g fun _ => rfl
    · cases h
  | .dx .skeys j a b, C, X, e0, ok, h, _ => by
    have g := sE (.dx .skeys j a b) C X e0 ok h
    unfold chkE at h
    dsimp only at h
    split at h
    · exact sT_plain g fun _ => rfl
    · cases h
  | .dx .keys j a b, C, X, e0, ok, h, _ => by
    unfold chkE at h
    cases h
  | .comp2 el it t cond vs it2 t2 cond2 vs2, C, X, e0, ok, h, _ => by
    have g := sE (.comp2 el it t cond vs it2 t2 cond2 vs2) C X e0 ok h
    unfold chkE at h
    split at h
    · exact sT_plain g fun _ => rfl
    · cases h
  | .lrng (.rng1 a), C, X, e0, ok, h, _ => by
    have g := sE (.lrng (.rng1 a)) C X e0 ok h
    unfold chkE at h
    split at h
    · exact sT_plain g fun _ => rfl
    · cases h
  | .lrng (.rng2 a b), C, X, e0, ok, h, _ => by
    have g := sE (.lrng (.rng2 a b)) C X e0 ok h
    unfold chkE at h
    split at h
    · exact sT_plain g fun _ => rfl
    · cases h
  | .lrng (.var _), _, _, _, _, h, _ => by unfold chkE at h; cases h
  | .lrng .non, _, _, _, _, h, _ => by unfold chkE at h; cases h
  | .lrng (.lset _), _, _, _, _, h, _ => by unfold chkE at h; cases h
  | .lrng (.ten _), _, _, _, _, h, _ => by unfold chkE at h; cases h
  | .lrng (.sst _), _, _, _, _, h, _ => by unfold chkE at h; cases h
  | .lrng (.d1 _ _), _, _, _, _, h, _ => by unfold chkE at h; cases h
  | .lrng (.vsum _), _, _, _, _, h, _ => by unfold chkE at h; cases h
  | .lrng (.kys _), _, _, _, _, h, _ => by unfold chkE at h; cases h
  | .lrng .dc0, _, _, _, _, h, _ => by unfold chkE at h; cases h
  | .lrng (.cme _), _, _, _, _, h, _ => by unfold chkE at h; cases h
  | .lrng (.cmn _), _, _, _, _, h, _ => by unfold chkE at h; cases h
  | .lrng (.bl _), _, _, _, _, h, _ => by unfold chkE at h; cases h
  | .lrng (.int _), _, _, _, _, h, _ => by unfold chkE at h; cases h
  | .lrng (.str _), _, _, _, _, h, _ => by unfold chkE at h; cases h
  | .lrng (.op _ _ _), _, _, _, _, h, _ => by unfold chkE at h; cases h
  | .lrng (.neg _), _, _, _, _, h, _ => by unfold chkE at h; cases h
  | .lrng (.not _), _, _, _, _, h, _ => by unfold chkE at h; cases h
  | .lrng (.and _ _), _, _, _, _, h, _ => by unfold chkE at h; cases h
  | .lrng (.or _ _), _, _, _, _, h, _ => by unfold chkE at h; cases h
  | .lrng (.ife _ _ _), _, _, _, _, h, _ => by unfold chkE at h; cases h
  | .lrng (.isn _), _, _, _, _, h, _ => by unfold chkE at h; cases h
  | .lrng (.isnt _), _, _, _, _, h, _ => by unfold chkE at h; cases h
  | .lrng (.cmp _ _ _), _, _, _, _, h, _ => by unfold chkE at h; cases h
  | .lrng (.chain _ _ _ _ _), _, _, _, _, h, _ => by unfold chkE at h; cases h
  | .lrng (.tup _), _, _, _, _, h, _ => by unfold chkE at h; cases h
  | .lrng (.lst _), _, _, _, _, h, _ => by unfold chkE at h; cases h
  | .lrng (.idx _ _), _, _, _, _, h, _ => by unfold chkE at h; cases h
  | .lrng (.slice _ _ _), _, _, _, _, h, _ => by unfold chkE at h; cases h
  | .lrng (.rev _), _, _, _, _, h, _ => by unfold chkE at h; cases h
  | .lrng (.comp _ _ _ _ _), _, _, _, _, h, _ => by unfold chkE at h; cases h
  | .lrng (.call _ _), _, _, _, _, h, _ => by unfold chkE at h; cases h
  | .lrng (.pop _), _, _, _, _, h, _ => by unfold chkE at h; cases h
  | .lrng (.ln _ _), _, _, _, _, h, _ => by unfold chkE at h; cases h
  | .lrng (.callr _ _ _), _, _, _, _, h, _ => by unfold chkE at h; cases h
  | .lrng (.isi _ _), _, _, _, _, h, _ => by unfold chkE at h; cases h
  | .lrng (.isi2 _ _ _), _, _, _, _, h, _ => by unfold chkE at h; cases h
  | .lrng (.blt1 _ _), _, _, _, _, h, _ => by unfold chkE at h; cases h
  | .lrng (.blt2 _ _ _), _, _, _, _, h, _ => by unfold chkE at h; cases h
  | .lrng (.lrng _), _, _, _, _, h, _ => by unfold chkE at h; cases h
  | .lrng (.meth _ _ _), _, _, _, _, h, _ => by unfold chkE at h; cases h
  | .lrng .nil, _, _, _, _, h, _ => by unfold chkE at h; cases h
  | .lrng (.cons _ _), _, _, _, _, h, _ => by unfold chkE at h; cases h
  | .lrng (.seq _), _, _, _, _, h, _ => by unfold chkE at h; cases h
  | .lrng (.enum _), _, _, _, _, h, _ => by unfold chkE at h; cases h
  | .lrng (.zip _ _), _, _, _, _, h, _ => by unfold chkE at h; cases h
  | .lrng (.dx _ _ _ _), _, _, _, _, h, _ => by unfold chkE at h; cases h
  | .lrng (.xt _ _ _ _), _, _, _, _, h, _ => by unfold chkE at h; cases h
  | .lrng (.comp2 _ _ _ _ _ _ _ _ _), _, _, _, _, h, _ => by unfold chkE at h; cases h
  | .lrng (.fz _ _), _, _, _, _, h, _ => by unfold chkE at h; cases h
  | .lrng (.trg _), _, _, _, _, h, _ => by unfold chkE at h; cases h
  | .trg (.rng1 a), C, X, e0, ok, h, _ => by
    have g := sE (.trg (.rng1 a)) C X e0 ok h
    unfold chkE at h
    split at h
    · exact sT_plain g fun _ => rfl
    · cases h
  | .trg (.rng2 a b), C, X, e0, ok, h, _ => by
    have g := sE (.trg (.rng2 a b)) C X e0 ok h
    unfold chkE at h
    split at h
    · exact sT_plain g fun _ => rfl
    · cases h
  | .trg (.var _), _, _, _, _, h, _ => by unfold chkE at h; cases h
  | .trg .non, _, _, _, _, h, _ => by unfold chkE at h; cases h
  | .trg (.lset _), _, _, _, _, h, _ => by unfold chkE at h; cases h
  | .trg (.ten _), _, _, _, _, h, _ => by unfold chkE at h; cases h
  | .trg (.sst _), _, _, _, _, h, _ => by unfold chkE at h; cases h
  | .trg (.d1 _ _), _, _, _, _, h, _ => by unfold chkE at h; cases h
  | .trg (.vsum _), _, _, _, _, h, _ => by unfold chkE at h; cases h
  | .trg (.kys _), _, _, _, _, h, _ => by unfold chkE at h; cases h
  | .trg .dc0, _, _, _, _, h, _ => by unfold chkE at h; cases h
  | .trg (.cme _), _, _, _, _, h, _ => by unfold chkE at h; cases h
  | .trg (.cmn _), _, _, _, _, h, _ => by unfold chkE at h; cases h
  | .trg (.bl _), _, _, _, _, h, _ => by unfold chkE at h; cases h
  | .trg (.int _), _, _, _, _, h, _ => by unfold chkE at h; cases h
  | .trg (.str _), _, _, _, _, h, _ => by unfold chkE at h; cases h
  | .trg (.op _ _ _), _, _, _, _, h, _ => by unfold chkE at h; cases h
  | .trg (.neg _), _, _, _, _, h, _ => by unfold chkE at h; cases h
  | .trg (.not _), _, _, _, _, h, _ => by unfold chkE at h; cases h
  | .trg (.and _ _), _, _, _, _, h, _ => by unfold chkE at h; cases h
  | .trg (.or _ _), _, _, _, _, h, _ => by unfold chkE at h; cases h
  | .trg (.ife _ _ _), _, _, _, _, h, _ => by unfold chkE at h; cases h
  | .trg (.isn _), _, _, _, _, h, _ => by unfold chkE at h; cases h
  | .trg (.isnt _), _, _, _, _, h, _ => by unfold chkE at h; cases h
  | .trg (.cmp _ _ _), _, _, _, _, h, _ => by unfold chkE at h; cases h
  | .trg (.chain _ _ _ _ _), _, _, _, _, h, _ => by unfold chkE at h; cases h
  | .trg (.tup _), _, _, _, _, h, _ => by unfold chkE at h; cases h
  | .trg (.lst _), _, _, _, _, h, _ => by unfold chkE at h; cases h
  | .trg (.idx _ _), _, _, _, _, h, _ => by unfold chkE at h; cases h
  | .trg (.slice _ _ _), _, _, _, _, h, _ => by unfold chkE at h; cases h
  | .trg (.rev _), _, _, _, _, h, _ => by unfold chkE at h; cases h
  | .trg (.comp _ _ _ _ _), _, _, _, _, h, _ => by unfold chkE at h; cases h
  | .trg (.call _ _), _, _, _, _, h, _ => by unfold chkE at h; cases h
  | .trg (.pop _), _, _, _, _, h, _ => by unfold chkE at h; cases h
  | .trg (.ln _ _), _, _, _, _, h, _ => by unfold chkE at h; cases h
  | .trg (.callr _ _ _), _, _, _, _, h, _ => by unfold chkE at h; cases h
  | .trg (.isi _ _), _, _, _, _, h, _ => by unfold chkE at h; cases h
  | .trg (.isi2 _ _ _), _, _, _, _, h, _ => by unfold chkE at h; cases h
  | .trg (.blt1 _ _), _, _, _, _, h, _ => by unfold chkE at h; cases h
  | .trg (.blt2 _ _ _), _, _, _, _, h, _ => by unfold chkE at h; cases h
  | .trg (.trg _), _, _, _, _, h, _ => by unfold chkE at h; cases h
  | .trg (.meth _ _ _), _, _, _, _, h, _ => by unfold chkE at h; cases h
  | .trg .nil, _, _, _, _, h, _ => by unfold chkE at h; cases h
  | .trg (.cons _ _), _, _, _, _, h, _ => by unfold chkE at h; cases h
  | .trg (.seq _), _, _, _, _, h, _ => by unfold chkE at h; cases h
  | .trg (.enum _), _, _, _, _, h, _ => by unfold chkE at h; cases h
  | .trg (.zip _ _), _, _, _, _, h, _ => by unfold chkE at h; cases h
  | .trg (.dx _ _ _ _), _, _, _, _, h, _ => by unfold chkE at h; cases h
  | .trg (.xt _ _ _ _), _, _, _, _, h, _ => by unfold chkE at h; cases h
  | .trg (.comp2 _ _ _ _ _ _ _ _ _), _, _, _, _, h, _ => by unfold chkE at h; cases h
  | .trg (.fz _ _), _, _, _, _, h, _ => by unfold chkE at h; cases h
  | .trg (.lrng _), _, _, _, _, h, _ => by unfold chkE at h; cases h
theorem sA : ∀ (es : E) (C : Ck) (X : Cx) (es0 : List Expr), Ok c k C X → chkA C es es0 = true → PA X es0 (tA c es)
  | .nil, C, X, es0, ok, h => by
    unfold chkA at h
    split at h
    · exact a_nil
    · cases h
  | .cons e es, C, X, es0, ok, h => by
    unfold chkA at h
    split at h
    · obtain ⟨h1, h2⟩ := and2 h
      exact a_cons (chk_star h1 _ _) (sE e C X _ ok h1) (sA es C X _ ok h2)
    · cases h
  | .var _, _, _, _, _, h => by unfold chkA at h; cases h
  | .non, _, _, _, _, h => by unfold chkA at h; cases h
  | .lset _, _, _, _, _, h => by unfold chkA at h; cases h
  | .ten _, _, _, _, _, h => by unfold chkA at h; cases h
  | .sst _, _, _, _, _, h => by unfold chkA at h; cases h
  | .d1 _ _, _, _, _, _, h => by unfold chkA at h; cases h
  | .vsum _, _, _, _, _, h => by unfold chkA at h; cases h
  | .kys _, _, _, _, _, h => by unfold chkA at h; cases h
  | .dc0, _, _, _, _, h => by unfold chkA at h; cases h
  | .cme _, _, _, _, _, h => by unfold chkA at h; cases h
  | .cmn _, _, _, _, _, h => by unfold chkA at h; cases h
  | .bl _, _, _, _, _, h => by unfold chkA at h; cases h
  | .int _, _, _, _, _, h => by unfold chkA at h; cases h
  | .str _, _, _, _, _, h => by unfold chkA at h; cases h
  | .op _ _ _, _, _, _, _, h => by unfold chkA at h; cases h
  | .neg _, _, _, _, _, h => by unfold chkA at h; cases h
  | .not _, _, _, _, _, h => by unfold chkA at h; cases h
  | .and _ _, _, _, _, _, h => by unfold chkA at h; cases h
  | .or _ _, _, _, _, _, h => by unfold chkA at h; cases h
  | .ife _ _ _, _, _, _, _, h => by unfold chkA at h; cases h
  | .isn _, _, _, _, _, h => by unfold chkA at h; cases h
  | .isnt _, _, _, _, _, h => by unfold chkA at h; cases h
  | .cmp _ _ _, _, _, _, _, h => by unfold chkA at h; cases h
  | .chain _ _ _ _ _, _, _, _, _, h => by unfold chkA at h; cases h
  | .tup _, _, _, _, _, h => by unfold chkA at h; cases h
  | .lst _, _, _, _, _, h => by unfold chkA at h; cases h
  | .idx _ _, _, _, _, _, h => by unfold chkA at h; cases h
  | .slice _ _ _, _, _, _, _, h => by unfold chkA at h; cases h
  | .rev _, _, _, _, _, h => by unfold chkA at h; cases h
  | .comp _ _ _ _ _, _, _, _, _, h => by unfold chkA at h; cases h
  | .call _ _, _, _, _, _, h => by unfold chkA at h; cases h
  | .pop _, _, _, _, _, h => by unfold chkA at h; cases h
  | .ln _ _, _, _, _, _, h => by unfold chkA at h; cases h
  | .callr _ _ _, _, _, _, _, h => by unfold chkA at h; cases h
  | .isi _ _, _, _, _, _, h => by unfold chkA at h; cases h
  | .isi2 _ _ _, _, _, _, _, h => by unfold chkA at h; cases h
  | .blt1 _ _, _, _, _, _, h => by unfold chkA at h; cases h
  | .blt2 _ _ _, _, _, _, _, h => by unfold chkA at h; cases h
  | .lrng _, _, _, _, _, h => by unfold chkA at h; cases h
  | .trg _, _, _, _, _, h => by unfold chkA at h; cases h
  | .meth _ _ _, _, _, _, _, h => by unfold chkA at h; cases h
  | .seq _, _, _, _, _, h => by unfold chkA at h; cases h
  | .rng1 _, _, _, _, _, h => by unfold chkA at h; cases h
  | .rng2 _ _, _, _, _, _, h => by unfold chkA at h; cases h
  | .enum _, _, _, _, _, h => by unfold chkA at h; cases h
  | .zip _ _, _, _, _, _, h => by unfold chkA at h; cases h
  | .dx _ _ _ _, _, _, _, _, h => by unfold chkA at h; cases h
  | .xt _ _ _ _, _, _, _, _, h => by unfold chkA at h; cases h
  | .comp2 _ _ _ _ _ _ _ _ _, _, _, _, _, h => by unfold chkA at h; cases h
  | .fz _ _, _, _, _, _, h => by unfold chkA at h; cases h
theorem sI : ∀ (it : E) (C : Ck) (X : Cx) (tg e0 : Expr), Ok c k C X → chkI C it tg e0 = true → PI X tg e0 (tI c it)
  | .seq e, C, X, tg, e0, ok, h => by
    unfold chkI at h
    exact i_seq (sE e C X _ ok h)
  | .rng1 a, C, X, tg, e0, ok, h => by
    unfold chkI at h
    split at h
    · obtain ⟨h1, h2⟩ := and2 h
      obtain ⟨rfl, g1, m1⟩ := ok.b h1
      exact i_rng1 g1 m1 (chk_star h2 _ _) (sE a C X _ ok h2)
    · cases h
  | .rng2 a b, C, X, tg, e0, ok, h => by
    unfold chkI at h
    split at h
    · obtain ⟨h1, h2, h3⟩ := and3 h
      obtain ⟨rfl, g1, m1⟩ := ok.b h1
      exact i_rng2 g1 m1 (chk_star h2 _ _) (chk_star h3 _ _) (sE a C X _ ok h2) (sE b C X _ ok h3)
    · cases h
  | .enum a, C, X, tg, e0, ok, h => by
    unfold chkI at h
    split at h
    · split at h
      · obtain ⟨h1, h2⟩ := and2 h
        obtain ⟨rfl, g1, m1⟩ := ok.b h1
        exact i_enum g1 m1 (chk_star h2 _ _) (sE a C X _ ok h2)
      · cases h
    · cases h
  | .zip a b, C, X, tg, e0, ok, h => by
    unfold chkI at h
    split at h
    · split at h
      · obtain ⟨h1, h2, h3⟩ := and3 h
        obtain ⟨rfl, g1, m1⟩ := ok.b h1
        exact i_zip g1 m1 (chk_star h2 _ _) (chk_star h3 _ _) (by rw [chk_star h3]; rfl) (sE a C X _ ok h2) (sE b C X _ ok h3)
      · cases h
    · cases h
  | .nil, _, _, _, _, _, h => by unfold chkI at h; cases h
  | .cons _ _, _, _, _, _, _, h => by unfold chkI at h; cases h
  | .var _, _, _, _, _, _, h => by unfold chkI at h; cases h
  | .non, _, _, _, _, _, h => by unfold chkI at h; cases h
  | .lset _, _, _, _, _, _, h => by unfold chkI at h; cases h
  | .ten _, _, _, _, _, _, h => by unfold chkI at h; cases h
  | .sst _, _, _, _, _, _, h => by unfold chkI at h; cases h
  | .d1 _ _, _, _, _, _, _, h => by unfold chkI at h; cases h
  | .vsum _, _, _, _, _, _, h => by unfold chkI at h; cases h
  | .dc0, _, _, _, _, _, h => by unfold chkI at h; cases h
  | .cme _, _, _, _, _, _, h => by unfold chkI at h; cases h
  | .cmn _, _, _, _, _, _, h => by unfold chkI at h; cases h
  | .bl _, _, _, _, _, _, h => by unfold chkI at h; cases h
  | .int _, _, _, _, _, _, h => by unfold chkI at h; cases h
  | .str _, _, _, _, _, _, h => by unfold chkI at h; cases h
  | .op _ _ _, _, _, _, _, _, h => by unfold chkI at h; cases h
  | .neg _, _, _, _, _, _, h => by unfold chkI at h; cases h
  | .not _, _, _, _, _, _, h => by unfold chkI at h; cases h
  | .and _ _, _, _, _, _, _, h => by unfold chkI at h; cases h
  | .or _ _, _, _, _, _, _, h => by unfold chkI at h; cases h
  | .ife _ _ _, _, _, _, _, _, h => by unfold chkI at h; cases h
  | .isn _, _, _, _, _, _, h => by unfold chkI at h; cases h
  | .isnt _, _, _, _, _, _, h => by unfold chkI at h; cases h
  | .cmp _ _ _, _, _, _, _, _, h => by unfold chkI at h; cases h
  | .chain _ _ _ _ _, _, _, _, _, _, h => by unfold chkI at h; cases h
  | .tup _, _, _, _, _, _, h => by unfold chkI at h; cases h
  | .lst _, _, _, _, _, _, h => by unfold chkI at h; cases h
  | .idx _ _, _, _, _, _, _, h => by unfold chkI at h; cases h
  | .slice _ _ _, _, _, _, _, _, h => by unfold chkI at h; cases h
  | .rev _, _, _, _, _, _, h => by unfold chkI at h; cases h
  | .comp _ _ _ _ _, _, _, _, _, _, h => by unfold chkI at h; cases h
  | .call _ _, _, _, _, _, _, h => by unfold chkI at h; cases h
  | .pop _, _, _, _, _, _, h => by unfold chkI at h; cases h
  | .ln _ _, _, _, _, _, _, h => by unfold chkI at h; cases h
  | .callr _ _ _, _, _, _, _, _, h => by unfold chkI at h; cases h
  | .isi _ _, _, _, _, _, _, h => by unfold chkI at h; cases h
  | .isi2 _ _ _, _, _, _, _, _, h => by unfold chkI at h; cases h
  | .blt1 _ _, _, _, _, _, _, h => by unfold chkI at h; cases h
  | .blt2 _ _ _, _, _, _, _, _, h => by unfold chkI at h; cases h
  | .lrng _, _, _, _, _, _, h => by unfold chkI at h; cases h
  | .trg _, _, _, _, _, _, h => by unfold chkI at h; cases h
  | .meth _ _ _, _, _, _, _, _, h => by unfold chkI at h; cases h
  | .kys a, C, X, tg, e0, ok, h => by
    unfold chkI at h
    split at h
    · obtain ⟨h1, h2, h3⟩ := and3 h
      have e := of_decide_eq_true h1
      subst e
      exact i_kys rfl h2 (sE a C X _ ok h3)
    · cases h
  | .dx .keys j a b, C, X, tg, e0, ok, h => by
    unfold chkI at h
    split at h
    · obtain ⟨h1, h2, h3⟩ := and3 h
      have e := of_decide_eq_true h1
      subst e
      exact i_keys (base_plain rfl _ _ _) h2 (ok.var h3)
    · cases h
  | .dx .new _ _ _, _, _, _, _, _, h => by unfold chkI at h; cases h
  | .xt _ _ _ _, _, _, _, _, _, h => by unfold chkI at h; cases h
  | .dx .isin _ _ _, _, _, _, _, _, h => by unfold chkI at h; cases h
  | .dx .nin _ _ _, _, _, _, _, _, h => by unfold chkI at h; cases h
  | .dx .get _ _ _, _, _, _, _, _, h => by unfold chkI at h; cases h
  | .dx .getd _ _ _, _, _, _, _, _, h => by unfold chkI at h; cases h
  | .dx .len _ _ _, _, _, _, _, _, h => by unfold chkI at h; cases h
  | .dx .skeys _ _ _, _, _, _, _, _, h => by unfold chkI at h; cases h
  | .comp2 _ _ _ _ _ _ _ _ _, _, _, _, _, _, h => by unfold chkI at h; cases h
  | .fz _ _, _, _, _, _, _, h => by unfold chkI at h; cases h
end
end
end DP

/-! statements: one rule a construct -/
namespace DP
open PySem PySem.Spec PyProof.Rows L2
variable [CA : ClsA]

theorem ite_ob {α : Type} {b : Bool} {x : Option α} {y : α} (h : (if b = true then x else none) = some y) : b = true ∧ x = some y := by
  cases b with
  | true => rw [if_pos rfl] at h; exact ⟨rfl, h⟩
  | false => rw [if_neg Bool.false_ne_true] at h; cases h
def endsD (D : Ends) (G0 H0 : Hp) (σ0 : St) (ρ0 : Rho) (o : Out) (G' H' : Hp) (σ' : St) (ρ' : Rho) : Prop := match o with
  | .nx => D.nx σ' H'
  | .bk => D.bk σ' H'
  | .ct => D.ct σ' H'
  | .rt sv => ∀ v, SvT G0 H0 σ0 ρ0 G' H' σ' ρ' v sv → D.rt v H'
def fin (D : Ends) (G0 H0 : Hp) (σ0 : St) (ρ0 : Rho) (o : Out) (ρ' : Rho) : Prop := ∀ σ' H' G', Ext G0 H0 σ0 ρ0 G' H' σ' ρ' → Rel G' H' σ' ρ' → endsD D G0 H0 σ0 ρ0 o G' H' σ' ρ'
theorem endsD.on {D : Ends} {G0 H0 G1 H1 G' H' : Hp} {σ0 σ1 σ' : St} {ρ0 ρ1 ρ' : Rho} {o : Out} (E : Ext G0 H0 σ0 ρ0 G1 H1 σ1 ρ1) (f : endsD D G0 H0 σ0 ρ0 o G' H' σ' ρ') : endsD D G1 H1 σ1 ρ1 o G' H' σ' ρ' := by
  cases o with
  | nx => exact f
  | bk => exact f
  | ct => exact f
  | rt sv =>
    intro v S
    refine f v ?_
    cases S with
    | val d => exact .val d
    | own h g q z c =>
      refine .own h g q ?_ c
      rcases z with z | z
      · exact E.old _ z
      · exact .inr (E.dom _ z)
    | dct h g q z c =>
      refine .dct h g q ?_ c
      rcases z with z | z
      · exact E.old _ z
      · exact .inr (E.dom _ z)
    | dk h g q z c =>
      refine .dk h g q ?_ c
      rcases z with z | z
      · exact E.old _ z
      · exact .inr (E.dom _ z)
theorem fin.on {D : Ends} {G0 H0 G1 H1 : Hp} {σ0 σ1 : St} {ρ0 ρ1 ρ' : Rho} {o : Out} (f : fin D G0 H0 σ0 ρ0 o ρ') (E : Ext G0 H0 σ0 ρ0 G1 H1 σ1 ρ1) : fin D G1 H1 σ1 ρ1 o ρ' :=
  fun σ' H' G' E' R' => (f σ' H' G' (E.trans E') R').on E
def tS (c : FT) (s : S) : TS := fun D σ H => ∃ G ρ o ρ', Rel G H σ ρ ∧ ex c s ρ = some (o, ρ') ∧ fin D G H σ ρ o ρ'
/-- several values, each as it comes -/
def tM (c : FT) (es : E) : TA := fun σ H Q => ∃ G ρ svs ρ', Rel G H σ ρ ∧ evm c es ρ = some (svs, ρ') ∧ ∀ vs H' G', Ext G H σ ρ G' H' σ ρ' → Rel G' H' σ ρ' → SvRs G' H' σ ρ' H vs svs → Q vs H'
theorem SvRs.older {G H H0 H00 : Hp} {σ : St} {ρ : Rho} (k : ∀ a, H0 a = none → H00 a = none) : ∀ {vs : List V} {svs : List SV}, SvRs G H σ ρ H0 vs svs → SvRs G H σ ρ H00 vs svs
  | _, _, .nil => .nil
  | _, _, .cons h a r => .cons (h.older k) a (SvRs.older k r)
theorem SvRs.at_new {G H H0 : Hp} {σ : St} {ρ : Rho} : ∀ {vs : List V} {svs : List SV} {k : Nat} {b : Addr} {sw : SV}, SvRs G H σ ρ H0 vs svs → vs[k]? = some (.ref b) → svs[k]? = some sw → hot sw = true → H0 b = none
  | _, _, 0, _, _, .cons h _ _, e1, e2, e3 => by
    have e1 := Option.some.inj e1
    have e2 := Option.some.inj e2
    subst e1 e2
    cases h with
    | val _ => cases e3
    | own _ _ _ n _ => exact n
    | dct _ _ _ n _ => exact n
    | dk _ _ _ n _ => exact n
  | _, _, k + 1, _, _, .cons _ _ r, e1, e2, e3 => SvRs.at_new (k := k) r (by simpa using e1) (by simpa using e2) e3
  | _, _, _, _, _, .nil, e1, _, _ => by simp at e1
def setAll : St → List Nat → List V → St
  | σ, j :: js, v :: vs => setAll (σ.set j (some v)) js vs
  | σ, _, _ => σ
theorem puts_run {G0 H0 G H : Hp} {σ0 : St} {ρ0 : Rho} : ∀ {is : List Nat} {vs : List V} {svs : List SV} {σ : St} {ρ ρ' : Rho}, Ext G0 H0 σ0 ρ0 G H σ ρ → Rel G H σ ρ → SvRs G H σ ρ H0 vs svs → puts ρ is svs = some ρ' →
    is.length = vs.length ∧ Ext G0 H0 σ0 ρ0 G H (setAll σ is vs) ρ' ∧ Rel G H (setAll σ is vs) ρ'
  | [], _, _, σ, ρ, ρ', E, R, .nil, e => by cases e; exact ⟨rfl, E, R⟩
  | [], _, _, σ, ρ, ρ', E, R, .cons _ _ _, e => by cases e
  | _ :: _, _, _, σ, ρ, ρ', E, R, .nil, e => by cases e
  | j :: is, v :: vs, sv :: svs, σ, ρ, ρ', E, R, .cons S a r, e => by
    have e : (match put ρ j sv with | some ρ1 => puts ρ1 is svs | none => none) = some ρ' := e
    cases e1 : put ρ j sv with
    | none => rw [e1] at e; cases e
    | some ρ1 =>
      rw [e1] at e
      obtain ⟨E1, R1, hot0⟩ := put_ok E R S.toT e1
      obtain ⟨h1, h2, h3⟩ := puts_run E1 R1 (SvRs.next hot0 a r) e
      exact ⟨by rw [List.length_cons, List.length_cons, h1], h2, h3⟩
/-- a name's list is given away -/
theorem Rel.forget {G H : Hp} {σ : St} {ρ : Rho} (R : Rel G H σ ρ) {j : Nat} {s0 : SV} (h : ρ[j]? = some s0) (hs : hot s0 = true) (nr : lnt s0 = none) :
    Ext G H σ ρ G H σ (ρ.set j .un) ∧ Rel G H σ (ρ.set j .un) ∧ ∀ a, σ[j]? = some (some (.ref a)) → ¬ HotAt σ (ρ.set j .un) a := by
  have other : ∀ k w, (ρ.set j .un)[k]? = some w → hot w = true → k ≠ j ∧ ρ[k]? = some w := fun k w h1 h2 => by
    rcases set_at h1 with ⟨_, rfl⟩ | ⟨hk, h1⟩
    · cases h2
    · exact ⟨hk, h1⟩
  refine ⟨⟨Same.refl _, fun _ _ h _ => h, fun _ _ _ h _ _ => h, fun _ h => h, fun b ⟨k, w, k1, k2, k3⟩ => .inl ⟨k, w, k1, (other k w k2 k3).2, k3⟩, fun k b bb k1 k2 => ⟨k1, ?_⟩⟩, ⟨R.le, by rw [List.length_set]; exact R.len, fun k o w k1 k2 => ?_, fun k l b w w' k1 k2 k3 l1 l2 l3 => R.sep k l b w w' k1 (other k w k2 k3).2 k3 l1 (other l w' l2 l3).2 l3, R.tie.setR rfl⟩, fun a ha ⟨k, w, k1, k2, k3⟩ => ?_⟩
  · have hk : j ≠ k := fun z => by subst z; rw [h] at k2; have k2 : lnt s0 = some bb := k2; rw [nr] at k2; cases k2
    rw [List.getElem?_set_ne hk]; exact k2
  · rcases set_at k2 with ⟨rfl, rfl⟩ | ⟨hk, k2⟩
    · exact .un _
    · exact R.slot k o w k1 k2
  · obtain ⟨hk, k4⟩ := other k w k2 k3
    exact hk (R.sep k j a w _ k1 k4 k3 ha h hs)
/-- what is returned -/
def tV (c : FT) (e : E) : TE := fun σ H Q => ∃ G ρ sv ρ', Rel G H σ ρ ∧ evo c e ρ = some (sv, ρ') ∧ ∀ v H' G', Ext G H σ ρ G' H' σ ρ' → Rel G' H' σ ρ' → SvT G H σ ρ G' H' σ ρ' v sv → Q v H'
section
variable {X : Cx} {c : FT} {e : E} {s a b : S} {e0 : Expr} {pos : Pos} {st : Stmt} {rest : List Stmt}
theorem v_var {j : Nat} (h : PE X e0 (tVar j)) : PE X e0 (tV c (.var j)) := PE.le h fun σ H Q ⟨G, ρ, sv, ρ', R, e, q⟩ => by
  have e : (match rd ρ j with | .own ds => some (.own ds, ρ.set j .un) | .dct false kvs => some (.dct false kvs, ρ.set j .un) | _ => ev c (.var j) ρ) = some (sv, ρ') := e
  cases z : rd ρ j with
  | own ds =>
    rw [z] at e
    cases e
    have z2 := rd_get z (by intro z; cases z)
    obtain ⟨o, h1, h2⟩ := R.at z2
    cases h2 with
    | @own p xs _ hH hG hD =>
      obtain ⟨E1, R1, nh⟩ := R.forget z2 rfl rfl
      exact ⟨.ref p, h1, q _ H G E1 R1 (.own hH hG hD (.inl ⟨j, _, h1, z2, rfl⟩) (nh p h1))⟩
  | dct lk kvs =>
    cases lk with
    | true => rw [z] at e; unfold ev at e; rw [z] at e; cases e
    | false =>
      rw [z] at e
      cases e
      have z2 := rd_get z (by intro z; cases z)
      obtain ⟨o, h1, h2⟩ := R.at z2
      cases h2 with
      | @dct p xs _ hH hG hD =>
        obtain ⟨E1, R1, nh⟩ := R.forget z2 rfl rfl
        exact ⟨.ref p, h1, q _ H G E1 R1 (.dct hH hG hD (.inl ⟨j, _, h1, z2, rfl⟩) (nh p h1))⟩
  | val d =>
    rw [z] at e
    unfold ev at e
    rw [z] at e
    cases e
    obtain ⟨o, h1, h2⟩ := R.at (rd_get z (by intro z; cases z))
    cases h2 with
    | val hd => exact ⟨_, h1, q _ H G Ext.refl R (.val hd)⟩
  | dk kvs => rw [z] at e; unfold ev at e; rw [z] at e; cases e
  | gho ds => rw [z] at e; unfold ev at e; rw [z] at e; cases e
  | oll lo n => rw [z] at e; unfold ev at e; rw [z] at e; cases e
  | un => rw [z] at e; unfold ev at e; rw [z] at e; cases e
  | row ds => rw [z] at e; unfold ev at e; rw [z] at e; cases e
  | rdc ds => rw [z] at e; unfold ev at e; rw [z] at e; cases e
  | obj _ => rw [z] at e; unfold ev at e; rw [z] at e; cases e
theorem v_else (hn : isVar e = none) (h : PE X e0 (tE c e)) : PE X e0 (tV c e) := PE.le h fun σ H Q ⟨G, ρ, sv, ρ', R, e1, q⟩ => by
  unfold evo at e1
  rw [hn] at e1
  exact ⟨G, ρ, sv, ρ', R, e1, fun v H' G' E R' S => q v H' G' E R' S.toT⟩
theorem m_nil : PA X [] (tM c .nil) := PA.le pa_nil fun σ H Q ⟨G, ρ, svs, ρ', R, e, q⟩ => by
  unfold evm at e
  cases e
  exact q [] H G Ext.refl R .nil
theorem m_cons {es : E} {es0 : List Expr} (hs : starEach (e0 :: es0) X.env = (false, eval e0 X.env) :: starEach es0 X.env) (h : PE X e0 (tE c e)) (h2 : PA X es0 (tM c es)) : PA X (e0 :: es0) (tM c (.cons e es)) :=
  PA.le (pa_cons h h2 hs) fun σ H Q ⟨G, ρ, svs, ρ', R, e1, q⟩ => by
    unfold evm at e1
    obtain ⟨sv, ρ1, e2, e1⟩ := bd_some e1
    obtain ⟨svs2, ρ2, e3, e1⟩ := bd_some e1
    cases e1
    refine ⟨G, ρ, sv, ρ1, R, e2, fun v H1 G1 E1 R1 S1 => ⟨G1, ρ1, svs2, _, R1, e3, fun vs H2 G2 E2 R2 S2 => ?_⟩⟩
    refine q (v :: vs) H2 G2 (E1.trans E2) R2 (.cons (S1.wait E2) (fun b z1 z2 k sw k1 k2 k3 => ?_) (S2.older E1.dom))
    have n := S2.at_new k1 k2 k3
    subst z1
    cases S1 with
    | val _ => cases z2
    | own h1 _ _ _ _ => rw [h1] at n; cases n
    | dct h1 _ _ _ _ => rw [h1] at n; cases n
    | dk h1 _ _ _ _ => rw [h1] at n; cases n

/-! ### blocks -/
theorem s_nil : PSs X [] (tS c .skip) := PSs.le pss_nil fun D σ H ⟨G, ρ, o, ρ', R, e, f⟩ => by
  unfold ex at e
  cases e
  exact f σ H G Ext.refl R
theorem s_seq (h1 : PS X st (tS c a)) (h2 : PSs X rest (tS c b)) : PSs X (st :: rest) (tS c (.seq a b)) := PSs.le (pss_cons h1 h2) fun D σ H ⟨G, ρ, o, ρ', R, e, f⟩ => by
  unfold ex at e
  cases e1 : ex c a ρ with
  | none => rw [e1] at e; cases e
  | some p =>
    obtain ⟨o1, ρ1⟩ := p
    rw [e1] at e
    cases o1 with
    | nx => exact ⟨G, ρ, .nx, ρ1, R, e1, fun σ' H' G' E R' => ⟨G', ρ1, o, ρ', R', e, f.on E⟩⟩
    | bk => cases e; exact ⟨G, ρ, _, _, R, e1, fun σ' H' G' E R' => f σ' H' G' E R'⟩
    | ct => cases e; exact ⟨G, ρ, _, _, R, e1, fun σ' H' G' E R' => f σ' H' G' E R'⟩
    | rt v => cases e; exact ⟨G, ρ, _, _, R, e1, fun σ' H' G' E R' => f σ' H' G' E R'⟩
theorem s_pass (h : PS X st tNext) : PS X st (tS c .pass) := PS.le h fun D σ H ⟨G, ρ, o, ρ', R, e, f⟩ => by
  unfold ex at e
  cases e
  exact f σ H G Ext.refl R
theorem s_brk : PS X (.Break pos) (tS c .brk) := PS.le ps_break fun D σ H ⟨G, ρ, o, ρ', R, e, f⟩ => by
  unfold ex at e
  cases e
  exact f σ H G Ext.refl R
theorem s_cont : PS X (.Continue pos) (tS c .cont) := PS.le ps_continue fun D σ H ⟨G, ρ, o, ρ', R, e, f⟩ => by
  unfold ex at e
  cases e
  exact f σ H G Ext.refl R
theorem s_never : PS X st (tS c .never) := PS.le ps_never fun D σ H ⟨G, ρ, o, ρ', R, e, f⟩ => by
  unfold ex at e
  cases e
theorem s_retn : PS X (.Return none pos) (tS c .retn) := PS.le ps_retN fun D σ H ⟨G, ρ, o, ρ', R, e, f⟩ => by
  unfold ex at e
  cases e
  exact f σ H G Ext.refl R .non (.val .non)
theorem s_ret (h : PE X e0 (tV c e)) : PS X (.Return (some e0) pos) (tS c (.ret e)) := PS.le (ps_ret h) fun D σ H ⟨G, ρ, o, ρ', R, e1, f⟩ => by
  unfold ex at e1
  obtain ⟨sv, ρ1, e2, e1⟩ := bd_some e1
  cases e1
  exact ⟨G, ρ, sv, _, R, e2, fun v H' G' E R' S => f σ H' G' E R' v S⟩
theorem s_expr (h : PE X e0 (tE c e)) (hs : swapsWith e0 none pos.line X.env = pure false) : PS X (.Expr e0 pos) (tS c (.expr e)) := PS.le (ps_expr h hs) fun D σ H ⟨G, ρ, o, ρ', R, e1, f⟩ => by
  unfold ex at e1
  obtain ⟨sv, ρ1, e2, e1⟩ := bd_some e1
  cases e1
  exact ⟨G, ρ, sv, _, R, e2, fun v H' G' E R' S => f σ H' G' E R'⟩
theorem s_ite {k : E} {k0 : Expr} {p q : List Stmt} (hk : PT X k0 (tT c k)) (ha : PSs X p (tS c a)) (hb : PSs X q (tS c b)) : PS X (.If k0 p q pos) (tS c (.ite k a b)) := PS.le (ps_if hk ha hb) fun D σ H ⟨G, ρ, o, ρ', R, e1, f⟩ => by
  unfold ex at e1
  obtain ⟨sv, ρ1, t, e2, z, e1⟩ := bt_some e1
  refine ⟨G, ρ, sv, t, ρ1, R, e2, z, fun H' G' E R' => ?_⟩
  cases t with
  | true => rw [if_pos rfl] at e1; rw [if_pos rfl]; exact ⟨G', ρ1, o, ρ', R', e1, f.on E⟩
  | false => rw [if_neg Bool.false_ne_true] at e1; rw [if_neg Bool.false_ne_true]; exact ⟨G', ρ1, o, ρ', R', e1, f.on E⟩

/-! ### stores -/
theorem s_set {i : Nat} (h : PS X st (tAsg (tE c e) (gName i))) : PS X st (tS c (.set i e)) := PS.le h fun D σ H ⟨G, ρ, o, ρ', R, e1, f⟩ => by
  unfold ex at e1
  obtain ⟨sv, ρ1, e2, e1⟩ := bd_some e1
  obtain ⟨ρ2, e3, e1⟩ := ob_some e1
  cases e1
  refine ⟨G, ρ, sv, ρ1, R, e2, fun v H' G' E R' S => ?_⟩
  obtain ⟨E2, R2, _⟩ := put_ok E R' S.toT e3
  exact f _ _ _ E2 R2
theorem s_setLc {i : Nat} {el it cond : E} {t : Tg} {vs : List Nat} (hts : ∀ j ∈ slotsT t, j ∈ vs) (h : PS X st (tAsg (tLc (tI c it) (tTg t) (tK c cond) (tD c el) vs) (gName i))) : PS X st (tS c (.set i (.comp el it t cond vs))) :=
  s_set (PS.le h fun D σ H q => comp_rd hts q)
theorem s_setLc2 {i : Nat} {el it cond it2 cond2 : E} {t t2 : Tg} {vs vs2 : List Nat} (hts : ∀ j ∈ slotsT t, j ∈ vs) (hts2 : ∀ j ∈ slotsT t2, j ∈ vs2) (hvv : ∀ j ∈ vs2, j ∈ vs)
    (h : PS X st (tAsg (tLc2 (tI c it) (tTg t) (tK c cond) (tI c it2) (tTg t2) (tK c cond2) (tD c el) vs vs2) (gName i))) : PS X st (tS c (.set i (.comp2 el it t cond vs it2 t2 cond2 vs2))) :=
  s_set (PS.le h fun D σ H q => comp2_rd hts hts2 hvv q)
theorem par_rd {is : List Nat} {es : E} {D : Ends} {σ : St} {H : Hp} (h : tS c (.par is es) D σ H) : tM c es σ H fun vs H1 => is.length = vs.length ∧ D.nx (setAll σ is vs) H1 := by
  obtain ⟨G, ρ, o, ρ', R, e1, f⟩ := h
  unfold ex at e1
  obtain ⟨svs, ρ1, e2, e1⟩ := bd_some e1
  obtain ⟨ρ2, e3, e1⟩ := ob_some e1
  cases e1
  refine ⟨G, ρ, svs, ρ1, R, e2, fun vs H1 G1 E1 R1 S1 => ?_⟩
  obtain ⟨h1, h2, h3⟩ := puts_run E1 R1 S1 e3
  exact ⟨h1, f _ _ _ h2 h3⟩
theorem tM.mono {es : E} {σ : St} {H : Hp} {Q Q' : List V → Hp → Prop} (h : tM c es σ H Q) (k : ∀ vs H', Q vs H' → Q' vs H') : tM c es σ H Q' := by
  obtain ⟨G, ρ, svs, ρ', R, e, q⟩ := h
  exact ⟨G, ρ, svs, ρ', R, e, fun vs H' G' E R' S => k _ _ (q vs H' G' E R' S)⟩
theorem s_par2 {i j : Nat} {es : E} (h : PS X st (tPar i j (tM c es))) : PS X st (tS c (.par [i, j] es)) := PS.le h fun D σ H q => by
  refine tM.mono (par_rd q) fun vs H' ⟨h1, h2⟩ => ?_
  match vs, h1, h2 with
  | [v, w], _, h2 => exact ⟨v, w, rfl, h2⟩
theorem s_par3 {i j l : Nat} {es : E} (h : PS X st (tPar3 i j l (tM c es))) : PS X st (tS c (.par [i, j, l] es)) := PS.le h fun D σ H q => by
  refine tM.mono (par_rd q) fun vs H' ⟨h1, h2⟩ => ?_
  match vs, h1, h2 with
  | [u, v, w], _, h2 => exact ⟨u, v, w, rfl, h2⟩
theorem SvRs.side {G H H0 : Hp} {σ : St} {ρ : Rho} {p : Addr} {o : HO} (hp : H p = none) : ∀ {vs : List V} {svs : List SV}, SvRs G H σ ρ H0 vs svs → SvRs G (upd H p o) σ ρ H0 vs svs
  | _, _, .nil => .nil
  | _, _, .cons h a r => .cons (by
      cases h with
      | val d => exact .val d
      | own h1 g q n c => exact .own (by rw [upd_ne (ne_of_none h1 hp)]; exact h1) g q n c
      | dct h1 g q n c => exact .dct (by rw [upd_ne (ne_of_none h1 hp)]; exact h1) g q n c
      | dk h1 g q n c => exact .dk (by rw [upd_ne (ne_of_none h1 hp)]; exact h1) g q n c) a (SvRs.side hp r)
theorem s_parT {is : List Nat} {es : E} (hz : is.length ≤ sizeLine) (h : PS X st (tAsg (tTup (tM c es)) (gTup X.K is.length (tPuts is)))) : PS X st (tS c (.par is es)) := PS.le h fun D σ H ⟨G, ρ, o, ρ', R, e1, f⟩ => by
  unfold ex at e1
  obtain ⟨svs, ρ1, e2, e1⟩ := bd_some e1
  obtain ⟨ρ2, e3, e1⟩ := ob_some e1
  cases e1
  refine ⟨G, ρ, svs, ρ1, R, e2, fun vs H1 G1 E1 R1 S1 => ?_⟩
  obtain ⟨h1, _, _⟩ := puts_run E1 R1 S1 e3
  refine ⟨by rw [← h1]; exact hz, fun p np => ⟨p, vs, rfl, SqT.of upd_same, h1.symm, G, H, σ, ρ, G1, ρ1, svs, ρ', E1.side (E1.dom p np), R1.side (R1.new np).2 (R1.new np).1, S1.side np, e3, fun σ' E2 R2 _ => f _ _ _ E2 R2⟩⟩
theorem s_unp {is : List Nat} (h : PS X st (tAsg (tD c e) (tTg (.many is)))) : PS X st (tS c (.unp is e)) := PS.le h fun D σ H ⟨G, ρ, o, ρ', R, e1, f⟩ => by
  unfold ex at e1
  obtain ⟨sv, ρ1, d, e2, z, e1⟩ := bz_some e1
  obtain ⟨ρ2, e3, e1⟩ := ob_some e1
  cases e1
  exact ⟨G, ρ, sv, d, ρ1, R, e2, z, fun v H' G' E R' Dv => ⟨G', ρ1, d, ρ', R', Dv, e3, fun σ' E2 R2 _ => f _ _ _ (E.trans E2) R2⟩⟩
theorem s_seti {j : Nat} {ix : E} (h : PS X st (tAsg (tD c e) (gSub (tVar j) (tD c ix) rSetL))) : PS X st (tS c (.seti j ix e)) := PS.le h fun D σ H ⟨G, ρ, o, ρ', R, e1, f⟩ => by
  unfold ex at e1
  obtain ⟨sv, ρ1, d, e2, z, e1⟩ := bz_some e1
  obtain ⟨ds0, e3, e1⟩ := ob_some e1
  obtain ⟨sy, ρ2, y, e4, z2, e1⟩ := bz_some e1
  obtain ⟨ds, e5, e1⟩ := ob_some e1
  cases y with
  | int k =>
    obtain ⟨n, e6, e1⟩ := ob_some e1
    obtain ⟨ρ3, e7, e1⟩ := ob_some e1
    cases e1
    refine ⟨G, ρ, sv, d, ρ1, R, e2, z, fun v H1 G1 E1 R1 D1 => ?_⟩
    obtain ⟨a, xs0, sv0, k1, _⟩ := slotL_at R1 e3
    refine ⟨.ref a, k1, G1, ρ1, sy, .int k, ρ2, R1, e4, z2, fun w H2 G2 E2 R2 D2 => ?_⟩
    cases D2
    obtain ⟨a', xs, sv1, k2, k3, k4, h1, g1, d1⟩ := slotL_at R2 e5
    rw [k1] at k2
    cases k2
    refine ⟨a, xs, k, n, rfl, rfl, h1, by rw [d1.length]; exact e6, ?_⟩
    obtain ⟨E3, R3⟩ := R2.write k1 g1 e7 (Drs.set (D1.mono E2.sub) n d1)
    exact f _ _ _ ((E1.trans E2).trans E3) R3
  | _ => cases e1
theorem s_dput {j : Nat} {ke : E} (h : PS X st (sDPutX (tVar j) (tD c ke) (tD c e))) : PS X st (tS c (.dput j ke e)) := PS.le h fun D σ H ⟨G, ρ, o, ρ', R, e1, f⟩ => by
  unfold ex at e1
  obtain ⟨sv, ρ1, d, e2, z, e1⟩ := bz_some e1
  obtain ⟨kv0, e3, e1⟩ := ob_some e1
  obtain ⟨sy, ρ2, y, e4, z2, e1⟩ := bz_some e1
  obtain ⟨ks, e5, e1⟩ := ob_some e1
  obtain ⟨kvs, e6, e1⟩ := ob_some e1
  obtain ⟨hz, e1⟩ := ite_some e1
  cases e1
  refine ⟨G, ρ, sv, d, ρ1, R, e2, z, fun v H1 G1 E1 R1 D1 => ?_⟩
  obtain ⟨a, xs0, _, k1, _⟩ := slotV_at R1 e3
  refine ⟨.ref a, k1, G1, ρ1, sy, y, ρ2, R1, e4, z2, fun w H2 G2 E2 R2 D2 => ?_⟩
  obtain ⟨a', xs, sv0, k2, k3, hh, hl, h1, g1, r1⟩ := slotV_at R2 e6
  rw [k1] at k2
  cases k2
  obtain ⟨b, rfl, hb⟩ := key_at D2 e5
  refine ⟨a, b, kvs.2, ks, xs, G2, d, rfl, rfl, ⟨.inl h1, R2.le, r1, hb⟩, h1, by rw [r1.length]; exact okL_le hz, D1.mono E2.sub, fun ys r2 => ?_⟩
  have w := R2.wroteX (G' := G2) (H' := upd H2 a (DO a ys)) (sv := mkV kvs.1 (putD kvs.2 ks d)) k1 k3 hh (mkV_hot _ _) (Same.refl _) (fun b o hb => by
    rw [upd_ne (fun z => by rw [z, g1] at hb; cases hb)]
    exact R2.le b o hb) (fun b o hb h => by rw [upd_ne hb]; exact h) (fun b o _ _ g _ => g) upd_same (mkV_R upd_same g1 r2) (fun b z => hl b _ z) (.inl (mkV_tied _ _))
  exact f _ _ _ ((E1.trans E2).trans w.1) w.2.1
theorem s_mov {i j : Nat} (h : PS X st (tAsg (tVar j) (gName i))) : PS X st (tS c (.mov i j)) := PS.le h fun D σ H ⟨G, ρ, o, ρ', R, e1, f⟩ => by
  unfold ex at e1
  obtain ⟨kvs, e2, e1⟩ := ob_some e1
  have hij : i ≠ j := fun z => by rw [if_pos z] at e1; cases e1
  rw [if_neg hij] at e1
  obtain ⟨ρ2, e3, e1⟩ := ob_some e1
  cases e1
  obtain ⟨a, xs, h1, z2, hH, hG, hK⟩ := slotU_at R e2
  obtain ⟨E1, R1, nh⟩ := R.forget z2 rfl rfl
  have S : SvT G H σ ρ G H σ (ρ.set j .un) (.ref a) (.dct false kvs) := .dct hH hG hK (.inl ⟨j, _, h1, z2, rfl⟩) (nh a h1)
  obtain ⟨E2, R2, _⟩ := put_ok E1 R1 S e3
  exact ⟨.ref a, h1, f _ _ _ E2 R2⟩
theorem s_fzS {js : List Nat} {s : S} (h : PS X st (tS c s)) : PS X st (tS c (.fz js s)) := PS.le h fun D σ H ⟨G, ρ, o, ρ', R, e1, f⟩ => by
  unfold ex at e1
  obtain ⟨G1, E1, R1⟩ := R.thaws (js := js)
  exact ⟨G1, _, o, ρ', R1, e1, f.on E1⟩
theorem s_app {j : Nat} (h : PS X st (tDrop (tBM X.K "list" rAppend (tVar j) (tCons (tD c e) tNil)))) : PS X st (tS c (.app j e)) := PS.le h fun D σ H ⟨G, ρ, o, ρ', R, e1, f⟩ => by
  unfold ex at e1
  obtain ⟨ds0, e3, e1⟩ := ob_some e1
  obtain ⟨sv, ρ1, d, e2, z, e1⟩ := bz_some e1
  obtain ⟨ds, e5, e1⟩ := ob_some e1
  obtain ⟨hz, e1⟩ := ite_ob e1
  obtain ⟨ρ2, e6, e1⟩ := ob_some e1
  cases e1
  obtain ⟨a, xs0, sv0, k1, _, _, h0, _⟩ := slotL_at R e3
  refine ⟨.ref a, k1, (.inl ⟨rfl, xs0, SqL.of h0⟩), G, ρ, sv, d, ρ1, R, e2, z, fun v H1 G1 E1 R1 D1 => ?_⟩
  obtain ⟨a', xs, sv1, k2, k3, k4, h1, g1, d1⟩ := slotL_at R1 e5
  rw [k1] at k2
  cases k2
  obtain ⟨E3, R3⟩ := R1.write k1 g1 e6 (d1.append (.cons D1 .nil))
  exact ⟨a, xs, v, rfl, rfl, h1, by rw [d1.length]; exact okL_le hz, f _ _ _ (E1.trans E3) R3⟩

/-! ### op= -/
def rIp (o : Op2) : TIp := fun x y H Q => ∃ i j k, x = .int i ∧ y = .int j ∧ augO o (.int i) (.int j) = some (.int k) ∧ Q (.int k) H
def notPow : Op2 → Bool
  | .pow => false
  | _ => true
theorem ip_ok (o : Op2) (hn : notPow o = true) : PIp X (opO o) (rIp o) := by
  intro pins s σ H x y v u Q I r1 r2 h
  obtain ⟨i, j, k, rfl, rfl, e, q⟩ := h
  cases o with
  | add => cases e; exact iop_add pins s σ H _ _ v u Q I r1 r2 ⟨i, j, rfl, rfl, q⟩
  | sub => cases e; exact iop_sub pins s σ H _ _ v u Q I r1 r2 ⟨i, j, rfl, rfl, q⟩
  | mul =>
    have e : (match (if (big i && big j) = true then some (SV.val (.int (i * j))) else none) with | some (.val d) => some d | _ => none) = some (PyData.int k) := e
    by_cases hb : (big i && big j) = true
    · rw [if_pos hb] at e
      cases e
      obtain ⟨b1, b2⟩ := and2 hb
      have h1 := big_log b1
      have h2 := big_log b2
      have go : OpR X (inplaceOp .Mult) (rI CMulW fun i j => .int (i * j)) := opI fun _ _ _ _ _ _ _ hc q => imul_int q hc.ok
      exact go pins s σ H _ _ v u Q I r1 r2 ⟨i, j, rfl, rfl, by unfold CMulW; omega, q⟩
    · rw [if_neg hb] at e
      cases e
  | fdiv =>
    have e : (match (if (decide (0 < j) && big j) = true then some (SV.val (.int (i / j))) else none) with | some (.val d) => some d | _ => none) = some (PyData.int k) := e
    by_cases hb : (decide (0 < j) && big j) = true
    · rw [if_pos hb] at e
      cases e
      obtain ⟨b1, b2⟩ := and2 hb
      exact iop_fdivW pins s σ H _ _ v u Q I r1 r2 ⟨i, j, rfl, rfl, ⟨of_decide_eq_true b1, big_log b2⟩, q⟩
    · rw [if_neg hb] at e
      cases e
  | mod =>
    have e : (match (if decide (0 < j) = true then some (SV.val (.int (i % j))) else none) with | some (.val d) => some d | _ => none) = some (PyData.int k) := e
    by_cases hb : decide (0 < j) = true
    · rw [if_pos hb] at e
      cases e
      exact iop_mod pins s σ H _ _ v u Q I r1 r2 ⟨i, j, rfl, rfl, of_decide_eq_true hb, q⟩
    · rw [if_neg hb] at e
      cases e
  | pow => cases hn
theorem isI_is {d : D} (h : isI d = true) : ∃ i, d = .int i := by
  cases d <;> first | exact ⟨_, rfl⟩ | cases h
theorem augO_int {o : Op2} {i j : Int} {w : D} (h : augO o (.int i) (.int j) = some w) : ∃ k, w = .int k := by
  unfold augO at h
  cases o <;> simp only [op2] at h <;> first
    | (cases h; exact ⟨_, rfl⟩)
    | (split at h
       · next e => split at e <;> first | (cases e; cases h; exact ⟨_, rfl⟩) | cases e
       · cases h)
theorem s_aug {i : Nat} {o : Op2} (h : PS X st (tAug i (tD c e) (rIp o))) : PS X st (tS c (.aug i o e)) := PS.le h fun D σ H ⟨G, ρ, o, ρ', R, e1, f⟩ => by
  unfold ex at e1
  obtain ⟨x, e2, e1⟩ := ob_some e1
  obtain ⟨sv, ρ1, zd, e3, z, e1⟩ := bz_some e1
  obtain ⟨hi, e1⟩ := ite_ob e1
  obtain ⟨w, e4, e1⟩ := ob_some e1
  obtain ⟨ρ2, e5, e1⟩ := ob_some e1
  cases e1
  obtain ⟨h1, h2⟩ := and2 hi
  obtain ⟨m, rfl⟩ := isI_is h1
  obtain ⟨n, rfl⟩ := isI_is h2
  obtain ⟨k, rfl⟩ := augO_int e4
  have hx : ρ[i]? = some (.val (.int m)) := by
    unfold slotD at e2
    cases q : rd ρ i with
    | val d => rw [q] at e2; cases e2; exact rd_get q (by intro z; cases z)
    | own ds => rw [q] at e2; cases e2
    | row ds => rw [q] at e2; cases e2
    | rdc ds => rw [q] at e2; cases e2
    | obj _ => rw [q] at e2; cases e2
    | un => rw [q] at e2; cases e2
    | dct lk kvs => rw [q] at e2; cases e2
    | dk kvs => rw [q] at e2; cases e2
    | gho ds => rw [q] at e2; cases e2
    | oll lo n => rw [q] at e2; cases e2
  obtain ⟨ov, k1, k2⟩ := R.at hx
  cases k2 with
  | val D0 =>
    cases D0
    refine ⟨_, k1, G, ρ, sv, .int n, ρ1, R, e3, z, fun v H1 G1 E1 R1 D1 => ?_⟩
    cases D1
    refine ⟨m, n, k, rfl, rfl, e4, ?_⟩
    obtain ⟨E2, R2, _⟩ := put_ok (H0 := H) E1 R1 (.val (.int k)) e5
    exact f _ _ _ E2 R2
theorem s_augi {j : Nat} {ix : E} {o : Op2} (h : PS X st (tAugS (tVar j) (tD c ix) (tD c e) (rIxL X.K) (rIp o) rSetL)) : PS X st (tS c (.augi j ix o e)) := PS.le h fun D σ H ⟨G, ρ, o, ρ', R, e1, f⟩ => by
  unfold ex at e1
  obtain ⟨ds0, e0, e1⟩ := ob_some e1
  obtain ⟨sy, ρ1, y, e2, z, e1⟩ := bz_some e1
  obtain ⟨ds, e3, e1⟩ := ob_some e1
  cases y with
  | int k =>
    obtain ⟨x, e4, e1⟩ := ob_some e1
    obtain ⟨sz, ρ2, zd, e5, z2, e1⟩ := bz_some e1
    obtain ⟨ds2, e6, e1⟩ := ob_some e1
    obtain ⟨hi, e1⟩ := ite_ob e1
    obtain ⟨w, e7, e1⟩ := ob_some e1
    obtain ⟨n, e8, e1⟩ := ob_some e1
    obtain ⟨ρ3, e9, e1⟩ := ob_some e1
    cases e1
    obtain ⟨h1, h2⟩ := and2 hi
    obtain ⟨p, rfl⟩ := isI_is h1
    obtain ⟨q, rfl⟩ := isI_is h2
    obtain ⟨r, rfl⟩ := augO_int e7
    obtain ⟨a, xs0, sv0, k1, _⟩ := slotL_at R e0
    refine ⟨.ref a, k1, G, ρ, sy, .int k, ρ1, R, e2, z, fun v H1 G1 E1 R1 D1 => ?_⟩
    cases D1
    obtain ⟨a', xs, sv1, k2, k3, k4, h1, g1, d1⟩ := slotL_at R1 e3
    rw [k1] at k2
    cases k2
    obtain ⟨xv, x1, x2⟩ := d1.atI e4
    cases x2
    refine ⟨a, xs, k, .int p, rfl, rfl, SqL.of h1, x1, G1, ρ1, sz, .int q, ρ2, R1, e5, z2, fun v H2 G2 E2 R2 D2 => ?_⟩
    cases D2
    obtain ⟨a'', xs2, sv2, k2, k3, k4, h2, g2, d2⟩ := slotL_at R2 e6
    rw [k1] at k2
    cases k2
    refine ⟨p, q, r, rfl, rfl, e7, a, xs2, k, n, rfl, rfl, h2, by rw [d2.length]; exact e8, ?_⟩
    obtain ⟨E3, R3⟩ := R2.write k1 g2 e9 (Drs.set (.int r) n d2)
    exact f _ _ _ ((E1.trans E2).trans E3) R3
  | _ => cases e1

/-! ### loops -/
theorem s_while {k : E} {k0 : Expr} {body : List Stmt} (hp : PassesOwn (model X.prog X.w) X.A X.env X.xe) (hk : PT X k0 (tT c k)) (hb : PSs X body (tS c a)) : PS X (.While k0 body [] pos) (tS c (.while_ k a)) :=
  PS.le (ps_while hp hk hb) fun D σ H ⟨G, ρ, o, ρ', R, e1, f⟩ => by
    unfold ex at e1
    refine ⟨fun m σ1 H1 => ∃ G1 ρ1, Ext G H σ ρ G1 H1 σ1 ρ1 ∧ Rel G1 H1 σ1 ρ1 ∧ whileL (fun ρ1 => bt (ev c k ρ1) fun t ρ2 => some (t, ρ2)) (fun ρ1 => ex c a ρ1) m ρ1 = some (o, ρ'), ⟨fuel, G, ρ, Ext.refl, R, e1⟩, ?_⟩
    rintro m σ1 H1 ⟨G1, ρ1, E1, R1, e2⟩
    cases m with
    | zero => unfold whileL at e2; cases e2
    | succ m =>
      unfold whileL at e2
      cases e3 : (bt (ev c k ρ1) fun t ρ2 => some (t, ρ2)) with
      | none => simp only [e3] at e2; cases e2
      | some p =>
        obtain ⟨t, ρ2⟩ := p
        simp only [e3] at e2
        obtain ⟨sv, ρ3, t2, e4, z, e5⟩ := bt_some e3
        cases e5
        refine ⟨G1, ρ1, sv, t, ρ2, R1, e4, z, fun H2 G2 E2 R2 => ?_⟩
        cases t with
        | false =>
          rw [if_neg Bool.false_ne_true]
          cases e2
          exact f _ _ _ (E1.trans E2) R2
        | true =>
          rw [if_pos rfl]
          cases e6 : ex c a ρ2 with
          | none => simp only [e6] at e2; cases e2
          | some p =>
            obtain ⟨o2, ρ4⟩ := p
            simp only [e6] at e2
            refine ⟨_, fun σ' H' h => h, G2, ρ2, o2, ρ4, R2, e6, fun σ' H' G' E R' => ?_⟩
            have E' := (E1.trans E2).trans E
            cases o2 with
            | nx => exact ⟨m, Nat.lt_succ_self m, G', ρ4, E', R', e2⟩
            | ct => exact ⟨m, Nat.lt_succ_self m, G', ρ4, E', R', e2⟩
            | bk => cases e2; exact f _ _ _ E' R'
            | rt v => cases e2; exact (f _ _ _ E' R').on (E1.trans E2)
theorem s_for {t : Tg} {it : E} {tg iter : Expr} {body : List Stmt} (hp : PassesOwn (model X.prog X.w) X.A X.env X.xe) (hc : X.calm = true) (hi : PI X tg iter (tI c it)) (hg : PG X tg (tTg t)) (hb : PSs X body (tS c a))
    (hs : ∀ x, foldedSetIterable iter X.env x = pure x) : PS X (.For tg iter body [] pos) (tS c (.for_ t it a)) :=
  PS.le (ps_for hp hc hi hg hb hs) fun D σ H ⟨G, ρ, o, ρ', R, e1, f⟩ => by
    unfold ex at e1
    obtain ⟨xs, ρ1, e2, e1⟩ := bd_some e1
    refine ⟨G, ρ, xs, ρ1, R, e2, fun J H1 G1 E1 R1 IR => ?_⟩
    refine ⟨fun i m σ2 H2 => m = xs.length - i ∧ i ≤ xs.length ∧ ∃ G2 ρ2, Ext G1 H1 σ ρ1 G2 H2 σ2 ρ2 ∧ Rel G2 H2 σ2 ρ2 ∧ forL (fun x ρ2 => ob (bindT t x ρ2) fun ρ3 => ex c a ρ3) (xs.drop i) ρ2 = some (o, ρ'),
      ⟨_, rfl, Nat.zero_le _, G1, ρ1, Ext.refl, R1, e1⟩, ?_⟩
    rintro i m σ2 H2 ⟨rfl, hi, G2, ρ2, E2, R2, e3⟩
    have ir := IR i G2 H2 E2.sub R2.le
    by_cases hlt : i < xs.length
    · refine .inr ⟨ir.1 hlt, fun σ' H' => ∃ m', m' < xs.length - i ∧ (m' = xs.length - (i + 1) ∧ i + 1 ≤ xs.length ∧ ∃ G2 ρ2, Ext G1 H1 σ ρ1 G2 H' σ' ρ2 ∧ Rel G2 H' σ' ρ2 ∧ forL (fun x ρ2 => ob (bindT t x ρ2) fun ρ3 => ex c a ρ3) (xs.drop (i + 1)) ρ2 = some (o, ρ')), fun σ' H' h => h, fun x H3 yl => ?_⟩
      have hxi : xs[i]? = some xs[i] := List.getElem?_eq_getElem hlt
      obtain ⟨G3, s1, s2, s3, cl, dx⟩ := ir.2.2 x H3 _ yl hxi
      rw [List.drop_eq_getElem_cons hlt] at e3
      unfold forL at e3
      cases eb : (ob (bindT t xs[i] ρ2) fun ρ3 => ex c a ρ3) with
      | none => simp only [eb] at e3; cases e3
      | some pr =>
        obtain ⟨o2, ρ7⟩ := pr
        simp only [eb] at e3
        obtain ⟨ρ3, e4, eb⟩ := ob_some eb
        have R3 : Rel G3 H3 σ2 ρ2 := R2.grow s1 s2 fun b ys z h => ⟨s3 _ _ h, cl b _ h (R2.hotG z) (R2.ntH z h)⟩
        have E3 : Ext G2 H2 σ2 ρ2 G3 H3 σ2 ρ2 := ⟨s1, fun b o h _ => s3 b o h, fun b o h g _ => cl b o h g, fun b h => s3.free h, fun _ h => .inl h, fun _ _ _ h1 h2 => ⟨h1, h2⟩⟩
        refine ⟨G3, ρ2, xs[i], ρ3, R3, dx, e4, fun σ4 E4 R4 w => ⟨G3, ρ3, o2, ρ7, R4, eb, fun σ' H' G' E R' => ?_⟩⟩
        have E' := E2.trans (E3.trans (E4.trans E))
        cases o2 with
        | nx => exact ⟨_, by omega, rfl, hlt, G', ρ7, E', R', e3⟩
        | ct => exact ⟨_, by omega, rfl, hlt, G', ρ7, E', R', e3⟩
        | bk => cases e3; exact f _ _ _ (E1.trans E') R'
        | rt v => cases e3; exact (f _ _ _ (E1.trans E') R').on (E1.trans (E2.trans (E3.trans E4)))
    · have ei : i = xs.length := by omega
      subst ei
      rw [List.drop_length] at e3
      unfold forL at e3
      cases e3
      exact .inl ⟨ir.2.1 rfl, f _ _ _ (E1.trans E2) R2⟩
end
end DP

/-! ghost slots: names that no code can read hold the rows of lists of lists -/
namespace DP
open PySem PySem.Spec PyProof.Rows L2
variable [CA : ClsA]

/-- the same at every name that code can read -/
def GhEq (X : Cx) (σ σ2 : St) : Prop := σ2.length = σ.length ∧ ∀ (i : Nat) (x : Str), X.N[i]? = some x → Vis X.env.scope x → σ2[i]? = σ[i]?
theorem Inv.ghost {X : Cx} {pins : List (Addr × Obj)} {σ σ2 : St} {H : Hp} {s : Shared} (I : Inv X pins σ H s) (g : GhEq X σ σ2) : Inv X pins σ2 H s where
  ok := I.ok
  os := I.os
  bare := I.bare
  base := I.base
  loc := by
    obtain ⟨m, h1, h2⟩ := I.loc
    exact ⟨m, h1, fun i x v hx hv hz => h2 i x v hx (by rw [← g.2 i x hx hz]; exact hv) hz⟩
  cell := I.cell
  free := I.free
  freeC := I.freeC
  pin := I.pin
  hok := I.hok
  len := by rw [g.1]; exact I.len
theorem PS.ghost {X : Cx} {st : Stmt} {t : TS} (h : PS X st t) : PS X st (fun D σ H => t { D with nx := fun σ' H' => ∃ σ2, GhEq X σ' σ2 ∧ D.nx σ2 H' } σ H) :=
  ⟨fun pins s σ H D I q => thn (h.run pins s σ H _ I q) fun f s' sp => by
    cases f with
    | next => obtain ⟨σ', H', I', σ2, g, n⟩ := sp; exact ⟨σ2, H', DP.Inv.ghost I' g, n⟩
    | brk => exact sp
    | cont => exact sp
    | ret u => exact sp⟩
/-- a slot is stored -/
theorem put_gen {G0 H0 G H : Hp} {σ0 σ : St} {ρ0 ρ : Rho} {j : Nat} {v : V} {sv : SV} (E : Ext G0 H0 σ0 ρ0 G H σ ρ) (R : Rel G H σ ρ) (sl : SlotR G H (some v) sv) (new : hot sv = true → ∀ b, v = .ref b → (HotAt σ0 ρ0 b ∨ H0 b = none) ∧ ¬ HotAt σ ρ b)
    (hl : j < ρ.length) (nr : ∀ b, ρ[j]?.bind lnt ≠ some b) (tie : Tie G (σ.set j (some v)) (ρ.set j sv)) :
    Ext G0 H0 σ0 ρ0 G H (σ.set j (some v)) (ρ.set j sv) ∧ Rel G H (σ.set j (some v)) (ρ.set j sv) ∧ ∀ b, HotAt (σ.set j (some v)) (ρ.set j sv) b → HotAt σ ρ b ∨ (v = .ref b ∧ hot sv = true) := by
  have hls : j < σ.length := by rw [R.len]; exact hl
  have hot0 : ∀ b, HotAt (σ.set j (some v)) (ρ.set j sv) b → HotAt σ ρ b ∨ (v = .ref b ∧ hot sv = true) := fun b ⟨k, w, k1, k2, k3⟩ => by
    rcases set_at k2 with ⟨rfl, rfl⟩ | ⟨hk, k2⟩
    · rw [List.getElem?_set_self hls] at k1
      have ev : v = .ref b := Option.some.inj (Option.some.inj k1)
      subst ev
      exact .inr ⟨rfl, k3⟩
    · rw [List.getElem?_set_ne (fun z => hk z.symm)] at k1
      exact .inl ⟨k, w, k1, k2, k3⟩
  refine ⟨⟨E.sub, E.keep, E.cold, E.dom, fun b hb => ?_, fun k b ds k1 k2 => ?_⟩, ⟨R.le, by rw [List.length_set, List.length_set]; exact R.len, fun k o w k1 k2 => ?_, fun k l b w w' k1 k2 k3 l1 l2 l3 => ?_, tie⟩, hot0⟩
  · rcases hot0 b hb with h | ⟨e, hs⟩
    · exact E.old b h
    · exact (new hs b e).1
  · obtain ⟨q1, q2⟩ := E.row k b ds k1 k2
    have hk : j ≠ k := fun z => by subst z; exact nr _ q2
    exact ⟨by rw [List.getElem?_set_ne hk]; exact q1, by rw [List.getElem?_set_ne hk]; exact q2⟩
  · rcases set_at k2 with ⟨rfl, rfl⟩ | ⟨hk, k2⟩
    · rw [List.getElem?_set_self hls] at k1
      cases k1
      exact sl
    · rw [List.getElem?_set_ne (fun z => hk z.symm)] at k1
      exact R.slot k o w k1 k2
  · rcases set_at k2 with ⟨rfl, rfl⟩ | ⟨hk, k4⟩
    · rw [List.getElem?_set_self hls] at k1
      have ev : v = .ref b := Option.some.inj (Option.some.inj k1)
      rcases set_at l2 with ⟨rfl, rfl⟩ | ⟨hk2, l4⟩
      · rfl
      · rw [List.getElem?_set_ne (fun z => hk2 z.symm)] at l1
        exact absurd ⟨l, w', l1, l4, l3⟩ (new k3 b ev).2
    · rw [List.getElem?_set_ne (fun z => hk z.symm)] at k1
      rcases set_at l2 with ⟨rfl, rfl⟩ | ⟨hk2, l4⟩
      · rw [List.getElem?_set_self hls] at l1
        have ev : v = .ref b := Option.some.inj (Option.some.inj l1)
        exact absurd ⟨k, w, k1, k4, k3⟩ (new l3 b ev).2
      · rw [List.getElem?_set_ne (fun z => hk2 z.symm)] at l1
        exact R.sep k l b w w' k1 k4 k3 l1 l4 l3

/-! ### the rows are made -/
def fillS (σ : St) (lo : Nat) (xs : List V) : Nat → St
  | 0 => σ
  | n + 1 => (fillS σ lo xs n).set (lo + n) xs[n]?
theorem fillS_len (σ : St) (lo : Nat) (xs : List V) : ∀ n, (fillS σ lo xs n).length = σ.length
  | 0 => rfl
  | n + 1 => by unfold fillS; rw [List.length_set, fillS_len σ lo xs n]
theorem fillG_len (ρ : Rho) (lo : Nat) (ds : List D) : ∀ n, (fillG ρ lo ds n).length = ρ.length
  | 0 => rfl
  | n + 1 => by unfold fillG; rw [List.length_set, fillG_len ρ lo ds n]
theorem fillS_out {σ : St} {lo : Nat} {xs : List V} {i : Nat} : ∀ {n : Nat}, (i < lo ∨ lo + n ≤ i) → (fillS σ lo xs n)[i]? = σ[i]?
  | 0, _ => rfl
  | n + 1, h => by
    unfold fillS
    rw [List.getElem?_set_ne (by omega)]
    exact fillS_out (by omega)
theorem fillG_out {ρ : Rho} {lo : Nat} {ds : List D} {i : Nat} : ∀ {n : Nat}, (i < lo ∨ lo + n ≤ i) → (fillG ρ lo ds n)[i]? = ρ[i]?
  | 0, _ => rfl
  | n + 1, h => by
    unfold fillG
    rw [List.getElem?_set_ne (by omega)]
    exact fillG_out (by omega)
theorem fillS_at {σ : St} {lo : Nat} {xs : List V} : ∀ {n k : Nat}, k < n → lo + n ≤ σ.length → (fillS σ lo xs n)[lo + k]? = some xs[k]?
  | 0, k, h, _ => absurd h (Nat.not_lt_zero k)
  | n + 1, k, h, hl => by
    unfold fillS
    by_cases e : k = n
    · subst e
      rw [List.getElem?_set_self (by rw [fillS_len]; omega)]
    · rw [List.getElem?_set_ne (by omega)]
      exact fillS_at (by omega) (by omega)
/-- new lists, that no name holds and that are no part of anything frozen -/
structure NewR (H0 G H : Hp) (σ : St) (ρ : Rho) (ds : List D) (bs : List Addr) : Prop where
  nd : bs.Nodup
  at_ : ∀ b ∈ bs, H0 b = none ∧ G b = none ∧ (∃ ys, H b = some (.lst ys) ∧ Drs G ys ds) ∧ ¬ HotAt σ ρ b
theorem fill_ok {H0 G0 G H : Hp} {σ0 σ : St} {ρ0 ρ : Rho} {lo : Nat} {ds : List D} {bs : List Addr} (E : Ext G0 H0 σ0 ρ0 G H σ ρ) (R : Rel G H σ ρ) (N : NewR H0 G H σ ρ ds bs) (hu : ∀ k, k < bs.length → ρ[lo + k]? = some .un) (ho : ∀ (i l n : Nat), ρ[i]? ≠ some (.oll l n)) :
    ∀ n, n ≤ bs.length → Ext G0 H0 σ0 ρ0 G H (fillS σ lo (bs.map V.ref) n) (fillG ρ lo ds n) ∧ Rel G H (fillS σ lo (bs.map V.ref) n) (fillG ρ lo ds n) ∧
      (∀ b, HotAt (fillS σ lo (bs.map V.ref) n) (fillG ρ lo ds n) b → HotAt σ ρ b ∨ ∃ k, k < n ∧ bs[k]? = some b) ∧ ∀ (i l m : Nat), (fillG ρ lo ds n)[i]? ≠ some (.oll l m)
  | 0, _ => ⟨E, R, fun b h => .inl h, ho⟩
  | n + 1, hn => by
    obtain ⟨E1, R1, h1, o1⟩ := fill_ok E R N hu ho n (by omega)
    have hb : bs[n]? = some bs[n] := List.getElem?_eq_getElem (by omega)
    obtain ⟨n1, n2, ⟨ys, n3, n4⟩, n5⟩ := N.at_ _ (List.getElem_mem (show n < bs.length by omega))
    have hun : (fillG ρ lo ds n)[lo + n]? = some .un := by rw [fillG_out (by omega)]; exact hu n (by omega)
    have hl : lo + n < (fillG ρ lo ds n).length := (List.getElem?_eq_some_iff.mp hun).1
    have cold : ¬ HotAt (fillS σ lo (bs.map V.ref) n) (fillG ρ lo ds n) bs[n] := fun z => by
      rcases h1 _ z with z | ⟨k, k1, k2⟩
      · exact n5 z
      · have := (List.getElem?_inj (by omega) N.nd).mp (k2.trans hb.symm)
        omega
    have o2 : ∀ (i l m : Nat), ((fillG ρ lo ds n).set (lo + n) (.gho ds))[i]? ≠ some (.oll l m) := fun i l m z => by
      rcases set_at z with ⟨_, z⟩ | ⟨_, z⟩
      · cases z
      · exact o1 i l m z
    have hv : (bs.map V.ref)[n]? = some (.ref bs[n]) := by rw [List.getElem?_map, hb]; rfl
    obtain ⟨E2, R2, h2⟩ := put_gen (j := lo + n) (v := .ref bs[n]) (sv := .gho ds) E1 R1 (.gho n3 n2 n4) (fun _ b e => by cases e; exact ⟨.inr n1, cold⟩) hl (fun ds z => by rw [hun] at z; cases z) (Tie.no o2)
    unfold fillS fillG
    rw [hv]
    refine ⟨E2, R2, fun b z => ?_, o2⟩
    rcases h2 b z with z | ⟨z, _⟩
    · rcases h1 b z with z | ⟨k, k1, k2⟩
      · exact .inl z
      · exact .inr ⟨k, by omega, k2⟩
    · cases z
      exact .inr ⟨n, by omega, hb⟩
/-- the outer list gets its name -/
theorem oll_ok {G0 H0 G H : Hp} {σ0 σ : St} {ρ0 ρ ρ' : Rho} {j lo n : Nat} {a : Addr} {xs : List V} (E : Ext G0 H0 σ0 ρ0 G H σ ρ) (R : Rel G H σ ρ) (ha : G a = some (.lst xs)) (hn : xs.length = n) (hj : j < lo)
    (hr : ∀ k, k < n → σ[lo + k]? = some xs[k]?) (ho : ∀ (i l n : Nat), ρ[i]? ≠ some (.oll l n)) (e : put ρ j (.oll lo n) = some ρ') : Ext G0 H0 σ0 ρ0 G H (σ.set j (some (.ref a))) ρ' ∧ Rel G H (σ.set j (some (.ref a))) ρ' := by
  obtain ⟨rfl, hl, nr⟩ := put_is e
  have hls : j < σ.length := by rw [R.len]; exact hl
  have t : Tie G (σ.set j (some (.ref a))) (ρ.set j (.oll lo n)) := fun i l m z => by
    rcases set_at z with ⟨e1, e2⟩ | ⟨_, z⟩
    · subst e1
      injection e2 with e3 e4
      subst e3 e4
      refine ⟨a, xs, List.getElem?_set_self hls, ha, hn, fun k ds hk _ => ?_⟩
      rw [List.getElem?_set_ne (by omega)]
      exact hr k hk
    · exact absurd z (ho i l m)
  obtain ⟨h1, h2, _⟩ := put_gen (j := j) (v := .ref a) (sv := .oll lo n) E R (.oll _ _ _) (fun z => Bool.noConfusion (show false = true from z)) hl nr t
  exact ⟨h1, h2⟩
section
variable {X : Cx} {c : FT}
def zeroE (ia : Nat) : E := .op .mul (.lst (.cons (.int 0) .nil)) (.var ia)
theorem rep_zero (n : Nat) : repD [PyData.int 0] n = List.replicate n (.int 0) := by
  unfold repD
  induction n with
  | zero => rfl
  | succ n ih => rw [List.replicate_succ, List.flatten_cons, ih, List.replicate_succ]; rfl
theorem ev_zero {ρ : Rho} {ia : Nat} {a : Int} (h : rd ρ ia = .val (.int a)) (a0 : 0 ≤ a) (a1 : a ≤ 1000) : ev c (zeroE ia) ρ = some (.own (List.replicate a.toNat (.int 0)), ρ) := by
  have e1 : ev c (.lst (.cons (.int 0) .nil)) ρ = some (.own [.int 0], ρ) := by
    unfold ev
    rw [show evs c (.cons (.int 0) .nil) ρ = some ([.int 0], ρ) by simp [evs, ev, bz, bd, frz]]
    rfl
  have e2 : ev c (.var ia) ρ = some (.val (.int a), ρ) := by unfold ev; rw [h]
  unfold zeroE
  unfold ev
  rw [e1]
  show (match ev c (.var ia) ρ with | some (v, r) => _ | none => none) = _
  rw [e2]
  show ob (op2 .mul (.list [.int 0]) (.int a)) _ = _
  have : op2 .mul (.list [.int 0]) (.int a) = some (.own (List.replicate a.toNat (.int 0))) := by
    show (if (okL (1 * a.toNat) && decide (a < 1000000) && decide (-1000000 < a)) = true then some (SV.own (repD [.int 0] a.toNat)) else none) = _
    rw [if_pos (by rw [okL_of (by omega), decide_eq_true (by omega), decide_eq_true (by omega)]; rfl), rep_zero]
  rw [this]
  rfl
theorem slotI_rd {ρ : Rho} {i : Nat} {a : Int} (h : slotI ρ i = some a) : rd ρ i = .val (.int a) := by
  unfold slotI at h
  split at h
  · next e => cases h; exact e
  · cases h
/-- [[0] * a for v in range(b)] -/
theorem mat_rd {G H : Hp} {σ : St} {ρ : Rho} {v ia ib : Nat} {a b : Int} {Q : VK} (R : Rel G H σ ρ) (ha : slotI ρ ia = some a) (hb : slotI ρ ib = some b) (hv : v < ρ.length) (hia : ia ≠ v) (a0 : 0 ≤ a) (a1 : a ≤ 1000) (b0 : 0 ≤ b) (b1 : b ≤ 1000)
    (q : ∀ p bs H' G', Ext G H σ ρ G' H' σ (back ρ (wipe ρ [v]) [v]) → Rel G' H' σ (back ρ (wipe ρ [v]) [v]) → G' p = some (.lst (bs.map V.ref)) → bs.length = b.toNat → NewR H G' H' σ (back ρ (wipe ρ [v]) [v]) (List.replicate a.toNat (.int 0)) bs → Q (.ref p) H') :
    tLc (tI c (.rng1 (.var ib))) (tTg (.one v)) tYes (tE c (zeroE ia)) [v] σ H Q := by
  have eb := slotI_rd hb
  have ea := slotI_rd ha
  have evb : ev c (.var ib) ρ = some (.val (.int b), ρ) := by unfold ev; rw [eb]
  have ei : evi c (.rng1 (.var ib)) ρ = some (rngD 0 b, ρ) := by
    unfold evi
    rw [evb]
    show (if rngOk b = true then some (rngD 0 b, ρ) else none) = _
    rw [if_pos (rngOk_of (by omega) (by omega))]
  have hlr : (rngD 0 b).length = b.toNat := by unfold rngD; simp
  refine ⟨G, ρ, rngD 0 b, ρ, R, ei, fun J H1 G1 E1 R1 IR p np => ?_⟩
  have cp : ¬ HotAt (L2.wipe σ [v]) (wipe ρ [v]) p := fun z => by obtain ⟨_, w, _⟩ := (R1.wipe [v]).hotH z; rw [np] at w; cases w
  have gp : G1 p = none := (R1.new np).2
  have hwu : (wipe ρ [v])[v]? = some .un := by
    show (ρ.set v .un)[v]? = _
    rw [List.getElem?_set_self hv]
  refine ⟨fun i m H2 => m = (rngD 0 b).length - i ∧ i ≤ (rngD 0 b).length ∧ ∃ G2 bs, Ext G1 H1 (L2.wipe σ [v]) (wipe ρ [v]) G2 H2 (L2.wipe σ [v]) (wipe ρ [v]) ∧ Rel G2 H2 (L2.wipe σ [v]) (wipe ρ [v]) ∧ H2 p = some (.lst (bs.map V.ref)) ∧ G2 p = none ∧ bs.length = i ∧ p ∉ bs ∧
      NewR H1 G2 H2 (L2.wipe σ [v]) (wipe ρ [v]) (List.replicate a.toNat (.int 0)) bs, ⟨_, rfl, Nat.zero_le _, G1, [], Ext.side Ext.refl np, (R1.wipe [v]).side gp cp, upd_same, gp, rfl, by simp, ⟨List.nodup_nil, fun b hb => by cases hb⟩⟩, ?_⟩
  rintro i m H2 ⟨rfl, hi, G2, bs, E2, R2, hp, gp2, hl, npb, N⟩
  have ir := IR i G2 H2 E2.sub R2.le
  by_cases hlt : i < (rngD 0 b).length
  · refine .inr ⟨ir.1 hlt, fun H' => ∃ m', m' < (rngD 0 b).length - i ∧ (m' = (rngD 0 b).length - (i + 1) ∧ i + 1 ≤ (rngD 0 b).length ∧ ∃ G2 bs, Ext G1 H1 (L2.wipe σ [v]) (wipe ρ [v]) G2 H' (L2.wipe σ [v]) (wipe ρ [v]) ∧ Rel G2 H' (L2.wipe σ [v]) (wipe ρ [v]) ∧ H' p = some (.lst (bs.map V.ref)) ∧ G2 p = none ∧ bs.length = i + 1 ∧ p ∉ bs ∧
      NewR H1 G2 H' (L2.wipe σ [v]) (wipe ρ [v]) (List.replicate a.toNat (.int 0)) bs), fun H' h => h, fun x H3 yl => ?_⟩
    have hxi : (rngD 0 b)[i]? = some (rngD 0 b)[i] := List.getElem?_eq_getElem hlt
    obtain ⟨G3, s1, s2, s3, cl, dx⟩ := ir.2.2 x H3 _ yl hxi
    have R3 : Rel G3 H3 (L2.wipe σ [v]) (wipe ρ [v]) := R2.grow s1 s2 fun b ys z h => ⟨s3 _ _ h, cl b _ h (R2.hotG z) (R2.ntH z h)⟩
    have E3 : Ext G2 H2 (L2.wipe σ [v]) (wipe ρ [v]) G3 H3 (L2.wipe σ [v]) (wipe ρ [v]) := ⟨s1, fun b o h _ => s3 b o h, fun b o h g _ => cl b o h g, fun b h => s3.free h, fun _ h => .inl h, fun _ _ _ h1 h2 => ⟨h1, h2⟩⟩
    have e3 : bindT (.one v) (rngD 0 b)[i] (wipe ρ [v]) = some ((wipe ρ [v]).set v (.val (rngD 0 b)[i])) := by
      show put (wipe ρ [v]) v _ = _
      unfold put
      rw [hwu]
    have hrd : rd ((wipe ρ [v]).set v (.val (rngD 0 b)[i])) ia = .val (.int a) := by
      rw [← ea]
      show ((ρ.set v .un).set v (.val (rngD 0 b)[i])).getD ia .un = ρ.getD ia .un
      rw [List.set_set, List.getD_eq_getElem?_getD, List.getD_eq_getElem?_getD, List.getElem?_set_ne (fun z => hia z.symm)]
    refine ⟨G3, wipe ρ [v], _, _, R3, dx, e3, fun σ2 E4 R4 w => ⟨?_, ?_⟩⟩
    · rw [w [v] (fun j hj => hj)]; exact wipe_twice σ [v]
    have hw : L2.wipe σ2 [v] = L2.wipe σ [v] := by rw [w [v] (fun j hj => hj)]; exact wipe_twice σ [v]
    show tE c (zeroE ia) σ2 H3 _
    refine ⟨G3, _, _, _, R4, ev_zero hrd a0 a1, fun y H4 G4 E5 R5 S5 => ?_⟩
    have E25 := (E3.trans E4).trans E5
    have cp2 : ¬ HotAt (L2.wipe σ [v]) (wipe ρ [v]) p := fun z => by
      obtain ⟨j, sv, k1, k2, k3⟩ := z
      exact cp ⟨j, sv, k1, k2, k3⟩
    have hp4 := E25.keep _ _ hp cp2
    have gp4 := E25.cold _ _ hp gp2 cp2 nt_lst
    have hwr : wipe ((wipe ρ [v]).set v (.val (rngD 0 b)[i])) [v] = wipe ρ [v] := by
      show ((ρ.set v .un).set v _).set v .un = ρ.set v .un
      rw [List.set_set, List.set_set]
    have Ew := Ext.wipe (E2.trans E25) hw
    have Rw := R5.wipe [v]
    rw [hw] at Rw
    rw [hwr] at Ew Rw
    cases S5 with
    | @own a' xs ds h4 g4 d4 n4 c4 =>
      have n2 : H2 a' = none := s3.free n4
      have ca : ¬ HotAt (L2.wipe σ [v]) (wipe ρ [v]) a' := by
        have := cool_wipe (vs := [v]) c4
        rw [hw, hwr] at this
        exact this
      have hpa : p ≠ a' := ne_of_none hp n2
      refine ⟨bs.map V.ref, hp4, by rw [List.length_map, hl]; have := hlr; have : sizeLine = 16777216 := sizeLine_eq; omega, _, by omega, rfl, hlt, G4, bs ++ [a'], Ew.side np, Rw.side gp4 cp, by rw [upd_same, List.map_append]; rfl, gp4, by rw [List.length_append, hl]; rfl, ?_, ?_, fun b' hb' => ?_⟩
      · rw [List.mem_append, List.mem_singleton]
        rintro (z | z)
        · exact npb z
        · exact hpa z
      · rw [List.nodup_append]
        refine ⟨N.nd, by simp, fun x hx y hy e => ?_⟩
        rw [List.mem_singleton] at hy
        obtain ⟨_, _, ⟨ys, z, _⟩, _⟩ := N.at_ x hx
        rw [e, hy, n2] at z
        cases z
      · rcases List.mem_append.mp hb' with hb' | hb'
        · obtain ⟨m1, m2, ⟨ys, m3, m4⟩, m5⟩ := N.at_ b' hb'
          refine ⟨m1, E25.cold _ _ m3 m2 m5 nt_lst, ⟨ys, ?_, m4.mono E25.sub⟩, m5⟩
          rw [upd_ne (fun z => npb (by rw [← z]; exact hb'))]
          exact E25.keep _ _ m3 m5
        · rw [List.mem_singleton] at hb'
          subst hb'
          refine ⟨E2.dom _ n2, g4, ⟨xs, ?_, d4⟩, ca⟩
          rw [upd_ne (fun z => hpa z.symm)]
          exact h4
  · have ei : i = (rngD 0 b).length := by omega
    obtain ⟨Eb, Rb, hbk⟩ := back_ok R1 E2 R2
    have E := E1.trans Eb
    have hfree : H p = none := E1.dom p np
    have cpb : ¬ HotAt σ (back ρ (wipe ρ [v]) [v]) p := fun z => cp (hbk p np z)
    have s1 : Same G2 (upd G2 p (.lst (bs.map V.ref))) := same_upd gp2
    refine .inl ⟨ir.2.1 ei, q p bs H2 (upd G2 p (.lst (bs.map V.ref))) ⟨E.sub.trans s1, E.keep, fun b o hb hg hn t => ?_, E.dom, E.old, E.row⟩ (Rb.grow s1 (fun b o hb => ?_) fun b ys z hb => ⟨hb, ?_⟩) upd_same (by rw [hl, ei, hlr]) ⟨N.nd, fun b' hb' => ?_⟩⟩
    · rw [upd_ne (show b ≠ p from ne_of_none hb hfree)]
      exact E.cold b o hb hg hn t
    · by_cases hbp : b = p
      · subst hbp; rw [upd_same] at hb; cases hb; exact hp
      · rw [upd_ne hbp] at hb; exact Rb.le b o hb
    · rw [upd_ne (fun hbp => cpb (by rw [← hbp]; exact z))]
      exact Rb.hotG z
    · obtain ⟨m1, m2, ⟨ys, m3, m4⟩, m5⟩ := N.at_ b' hb'
      refine ⟨E1.dom _ m1, ?_, ⟨ys, m3, m4.mono s1⟩, fun z => m5 (hbk b' m1 z)⟩
      rw [upd_ne (fun z => npb (by rw [← z]; exact hb'))]
      exact m2
/-- d[k] = e, the keys ints and texts -/
theorem s_kput {j : Nat} {ke e : E} {st : Stmt} (h : PS X st (sDPut (tVar j) (tD c ke) (tD c e))) : PS X st (tS c (.dkp j ke e)) := PS.le h fun D σ H ⟨G, ρ, o, ρ', R, e1, f⟩ => by
  unfold ex at e1
  obtain ⟨sv, ρ1, d, e2, z, e1⟩ := bz_some e1
  obtain ⟨kv0, e3, e1⟩ := ob_some e1
  obtain ⟨sy, ρ2, y, e4, z2, e1⟩ := bz_some e1
  obtain ⟨ks, e5, e1⟩ := ob_some e1
  obtain ⟨kvs, e6, e1⟩ := ob_some e1
  obtain ⟨hz, e1⟩ := ite_some e1
  cases e1
  refine ⟨G, ρ, sv, d, ρ1, R, e2, z, fun v H1 G1 E1 R1 D1 => ?_⟩
  obtain ⟨a, xs0, k1, _⟩ := slotC_at R1 e3
  refine ⟨.ref a, k1, G1, ρ1, sy, y, ρ2, R1, e4, z2, fun w H2 G2 E2 R2 D2 => ?_⟩
  obtain ⟨a', xs, k2, k3, h1, g1, r1⟩ := slotC_at R2 e6
  rw [k1] at k2
  cases k2
  cases kD_at D2 e5
  refine ⟨a, _, rfl, DPut.k h1 (by rw [r1.length]; exact okL_le hz), ?_⟩
  have w := R2.wroteX (G' := G2) (H' := upd H2 a (.dK (putK xs ks v))) (sv := .dk (pK kvs ks d)) k1 k3 rfl rfl (Same.refl _) (fun b o hb => by
    rw [upd_ne (fun z => by rw [z, g1] at hb; cases hb)]
    exact R2.le b o hb) (fun b o hb h => by rw [upd_ne hb]; exact h) (fun b o _ _ g _ => g) upd_same (.dk upd_same g1 (r1.put (D1.mono E2.sub))) (fun _ z => nomatch z) (.inl rfl)
  exact f _ _ _ ((E1.trans E2).trans w.1) w.2.1
/-- a row is written in place -/
theorem Rel.row {G H : Hp} {σ : St} {ρ : Rho} {i : Nat} {b : Addr} {zs : List V} {ds es : List D} (R : Rel G H σ ρ) (h0 : ρ[i]? = some (.gho ds)) (hb : σ[i]? = some (some (.ref b))) (hg : G b = none) (q : Drs G zs es) :
    Ext G H σ ρ G (upd H b (.lst zs)) σ (ρ.set i (.gho es)) ∧ Rel G (upd H b (.lst zs)) σ (ρ.set i (.gho es)) := by
  have w := R.wroteX (G' := G) (H' := upd H b (.lst zs)) (sv := .gho es) hb h0 rfl rfl (Same.refl _) (fun a o ha => by
    rw [upd_ne (fun z => by rw [z, hg] at ha; cases ha)]
    exact R.le a o ha) (fun a o ha h => by rw [upd_ne ha]; exact h) (fun a o _ _ g _ => g) upd_same (.gho upd_same hg q) (fun _ z => nomatch z) (.inr ⟨ds, es, rfl, rfl⟩)
  exact ⟨w.1, w.2.1⟩
theorem s_mset {j : Nat} {ea eb e : E} {st : Stmt} (h : PS X st (tAsg (tD c e) (gSub (tOp (rIxL X.K) (tVar j) (tD c ea)) (tD c eb) rSetL))) : PS X st (tS c (.mset j ea eb e)) := PS.le h fun D σ H ⟨G, ρ, o, ρ', R, e1, f⟩ => by
  unfold ex at e1
  obtain ⟨sv, ρ1, d, e2, z, e1⟩ := bz_some e1
  obtain ⟨⟨lo0, n0⟩, e3, e1⟩ := ob_some e1
  obtain ⟨sx, ρ2, x, e4, z2, e1⟩ := bz_some e1
  refine ⟨G, ρ, sv, d, ρ1, R, e2, z, fun v H1 G1 E1 R1 D1 => ?_⟩
  obtain ⟨_, a0, xs0, s1, _⟩ := slotM_at R1 e3
  refine ⟨.ref a0, s1, G1, ρ1, sx, x, ρ2, R1, e4, z2, fun y H2 G2 E2 R2 D2 => ?_⟩
  cases x with
  | int k =>
    cases D2
    obtain ⟨⟨lo, n⟩, e5, e1⟩ := ob_some e1
    obtain ⟨i, e6, e1⟩ := ob_some e1
    obtain ⟨ds0, e7, e1⟩ := ob_some e1
    obtain ⟨sy, ρ3, y, e8, z3, e1⟩ := bz_some e1
    obtain ⟨a1, xs, b1, ys, h1, h2, h3, h4, _⟩ := row_at R2 e5 e6 e7
    rw [s1] at h1
    cases h1
    refine ⟨_, xs, k, .ref b1, rfl, rfl, SqL.of (R2.le _ _ h2), h3, G2, ρ2, sy, y, ρ3, R2, e8, z3, fun w H3 G3 E3 R3 D3 => ?_⟩
    cases y with
    | int m =>
      cases D3
      obtain ⟨ds, e9, e1⟩ := ob_some e1
      obtain ⟨l, e10, e1⟩ := ob_some e1
      cases e1
      obtain ⟨g0, b2, zs, g1, g2, g3, g4⟩ := slotG_at R3 e9
      rw [h4] at g1
      cases g1
      obtain ⟨E4, R4⟩ := R3.row g0 h4 g3 (Drs.set (D1.mono (E2.trans E3).sub) l g4)
      exact ⟨_, zs, m, l, rfl, rfl, g2, by rw [g4.length]; exact e10, f _ _ _ ((E1.trans (E2.trans E3)).trans E4) R4⟩
    | _ => cases e1
  | _ => cases e1
theorem s_maug {j : Nat} {ea eb e : E} {o : Op2} {st : Stmt} (h : PS X st (tAugS (tOp (rIxL X.K) (tVar j) (tD c ea)) (tD c eb) (tD c e) (rIxL X.K) (rIp o) rSetL)) : PS X st (tS c (.maug j ea eb o e)) := PS.le h fun D σ H ⟨G, ρ, o, ρ', R, e1, f⟩ => by
  unfold ex at e1
  obtain ⟨⟨lo0, n0⟩, e3, e1⟩ := ob_some e1
  obtain ⟨sx, ρ1, x, e4, z2, e1⟩ := bz_some e1
  obtain ⟨_, a0, xs0, s1, _⟩ := slotM_at R e3
  refine ⟨.ref a0, s1, G, ρ, sx, x, ρ1, R, e4, z2, fun y H1 G1 E1 R1 D1 => ?_⟩
  cases x with
  | int k =>
    cases D1
    obtain ⟨⟨lo, n⟩, e5, e1⟩ := ob_some e1
    obtain ⟨i, e6, e1⟩ := ob_some e1
    obtain ⟨ds0, e7, e1⟩ := ob_some e1
    obtain ⟨sy, ρ2, y, e8, z3, e1⟩ := bz_some e1
    obtain ⟨a1, xs, b1, ys, h1, h2, h3, h4, _⟩ := row_at R1 e5 e6 e7
    rw [s1] at h1
    cases h1
    refine ⟨_, xs, k, .ref b1, rfl, rfl, SqL.of (R1.le _ _ h2), h3, G1, ρ1, sy, y, ρ2, R1, e8, z3, fun w H2 G2 E2 R2 D2 => ?_⟩
    cases y with
    | int m =>
      cases D2
      obtain ⟨ds, e9, e1⟩ := ob_some e1
      obtain ⟨u, e10, e1⟩ := ob_some e1
      obtain ⟨sz, ρ3, zd, e11, z4, e1⟩ := bz_some e1
      obtain ⟨ds2, e12, e1⟩ := ob_some e1
      obtain ⟨hi, e1⟩ := ite_ob e1
      obtain ⟨w, e13, e1⟩ := ob_some e1
      obtain ⟨l, e14, e1⟩ := ob_some e1
      cases e1
      obtain ⟨i1, i2⟩ := and2 hi
      obtain ⟨p, rfl⟩ := isI_is i1
      obtain ⟨q, rfl⟩ := isI_is i2
      obtain ⟨r, rfl⟩ := augO_int e13
      obtain ⟨g0, b2, zs, g1, g2, g3, g4⟩ := slotG_at R2 e9
      rw [h4] at g1
      cases g1
      obtain ⟨xv, x1, x2⟩ := g4.atI e10
      cases x2
      refine ⟨_, zs, m, .int p, rfl, rfl, SqL.of g2, x1, G2, ρ2, sz, .int q, ρ3, R2, e11, z4, fun v H3 G3 E3 R3 D3 => ?_⟩
      cases D3
      obtain ⟨g0, b3, us, g1, g5, g6, g7⟩ := slotG_at R3 e12
      rw [h4] at g1
      cases g1
      obtain ⟨E4, R4⟩ := R3.row g0 h4 g6 (Drs.set (.int r) l g7)
      exact ⟨p, q, r, rfl, rfl, e13, _, us, m, l, rfl, rfl, g5, by rw [g7.length]; exact e14, f _ _ _ ((E1.trans (E2.trans E3)).trans E4) R4⟩
    | _ => cases e1
  | _ => cases e1
/-- what newG tells -/
theorem newG_is {ρ ρ' : Rho} {j lo mx v : Nat} {a b : Int} (h : newG ρ j lo mx v a b = some ρ') : (0 ≤ a ∧ a ≤ 1000 ∧ 0 ≤ b ∧ b ≤ 1000) ∧ b.toNat ≤ mx ∧ (∀ k, k < mx → ρ[lo + k]? = some .un) ∧ (∀ (i l n : Nat), ρ[i]? ≠ some (.oll l n)) ∧ j < lo ∧ v < lo ∧
    ρ' = fillG (back ρ (wipe ρ [v]) [v]) lo (List.replicate a.toNat (.int 0)) b.toNat := by
  unfold newG at h
  obtain ⟨hz, h⟩ := ite_some h
  obtain ⟨hz, h4⟩ := and2 hz
  obtain ⟨h1, h2, h3⟩ := and3 hz
  obtain ⟨a0, a1, b0⟩ := and3 h1
  obtain ⟨m1, m2⟩ := and2 h2
  obtain ⟨g1, g2⟩ := and2 h3
  obtain ⟨l1, l2⟩ := and2 h4
  have a0 := of_decide_eq_true a0
  have a1 := of_decide_eq_true a1
  have b0 := of_decide_eq_true b0
  have m1 := of_decide_eq_true m1
  have m2 := of_decide_eq_true m2
  refine ⟨⟨a0, a1, b0, by omega⟩, m1, fun k hk => ?_, fun i l n z => ?_, of_decide_eq_true l1, of_decide_eq_true l2, h.symm⟩
  · have q := List.all_eq_true.mp g1 k (List.mem_range.mpr hk)
    split at q
    · next e => exact e
    · cases q
  · have q := List.all_eq_true.mp g2 _ (List.mem_of_getElem? z)
    cases q
theorem back_oll {ρ : Rho} {v : Nat} (ho : ∀ (i l n : Nat), ρ[i]? ≠ some (.oll l n)) (i l n : Nat) : (back ρ (wipe ρ [v]) [v])[i]? ≠ some (.oll l n) := fun z => by
  by_cases hi : i ∈ [v]
  · obtain ⟨w, w1, w2⟩ := backR_in (wipeR_len ρ [v]) hi z
    cases w <;> first | cases w2 | skip
  · rw [backR_out hi, wipeR_at hi] at z
    exact ho i l n z
theorem back_same {ρ : Rho} {v i : Nat} (hi : i ≠ v) : (back ρ (wipe ρ [v]) [v])[i]? = ρ[i]? := by
  have : i ∉ [v] := by simpa using hi
  rw [backR_out this, wipeR_at this]
/-- behind the making of a matrix: its rows get their ghosts -/
theorem mat_done {G0 H0 G H G' H' : Hp} {σ0 σ : St} {ρ0 ρ ρ' : Rho} {j lo mx v : Nat} {a b : Int} {bs : List Addr} (e : newG ρ j lo mx v a b = some ρ') (hl : lo + mx ≤ σ.length) (E0 : Ext G0 H0 σ0 ρ0 G H σ ρ) (E : Ext G H σ ρ G' H' σ (back ρ (wipe ρ [v]) [v])) (R : Rel G' H' σ (back ρ (wipe ρ [v]) [v])) (hb : bs.length = b.toNat) (N : NewR H G' H' σ (back ρ (wipe ρ [v]) [v]) (List.replicate a.toNat (.int 0)) bs) :
    Ext G0 H0 σ0 ρ0 G' H' (fillS σ lo (bs.map V.ref) b.toNat) ρ' ∧ Rel G' H' (fillS σ lo (bs.map V.ref) b.toNat) ρ' ∧
      (∀ d, HotAt (fillS σ lo (bs.map V.ref) b.toNat) ρ' d → HotAt σ (back ρ (wipe ρ [v]) [v]) d ∨ d ∈ bs) ∧ (∀ (i l m : Nat), ρ'[i]? ≠ some (.oll l m)) ∧ ∀ k, k < b.toNat → (fillS σ lo (bs.map V.ref) b.toNat)[lo + k]? = some (bs.map V.ref)[k]? := by
  obtain ⟨⟨a0, a1, b0, b1⟩, m1, un, ho, l1, l2, rfl⟩ := newG_is e
  obtain ⟨f1, f2, f3, f4⟩ := fill_ok (E0.trans E) R ⟨N.nd, fun b hb => by
    obtain ⟨n1, n2, n3, n4⟩ := N.at_ b hb
    exact ⟨E0.dom _ n1, n2, n3, n4⟩⟩ (fun k hk => by rw [back_same (show lo + k ≠ v by omega)]; exact un k (by omega)) (back_oll ho) b.toNat (by omega)
  refine ⟨f1, f2, fun d hd => ?_, f4, fun k hk => fillS_at hk (by omega)⟩
  rcases f3 d hd with z | ⟨k, _, z⟩
  · exact .inl z
  · exact .inr (List.mem_of_getElem? z)
def tMat (c : FT) (v ia ib : Nat) : TE := tLc (tI c (.rng1 (.var ib))) (tTg (.one v)) tYes (tE c (zeroE ia)) [v]
/-- the names at the ghosts' places are no names of the text -/
def Hid (X : Cx) (lo mx : Nat) : Prop := lo + mx ≤ X.N.length ∧ ∀ k, k < mx → ∀ x, X.N[lo + k]? = some x → ¬ Vis X.env.scope x
theorem s_mnew {j lo mx v ia ib : Nat} {st : Stmt} (hid : Hid X lo mx) (h : PS X st (tAsg (tMat c v ia ib) (gName j))) : PS X st (tS c (.mnew j lo mx v ia ib)) := by
  refine ⟨fun pins s σ H D I q => (PS.ghost h).run pins s σ H D I ?_⟩
  have hlen := I.len
  obtain ⟨G, ρ, o, ρ', R, e1, f⟩ := q
  unfold ex at e1
  have hia : ia ≠ v := fun z => by rw [if_pos (decide_eq_true z)] at e1; cases e1
  rw [if_neg (by simpa using hia)] at e1
  obtain ⟨a, e2, e1⟩ := ob_some e1
  obtain ⟨b, e3, e1⟩ := ob_some e1
  obtain ⟨ρ1, e4, e1⟩ := ob_some e1
  obtain ⟨ρ2, e5, e1⟩ := ob_some e1
  cases e1
  obtain ⟨⟨a0, a1, b0, b1⟩, m1, un, ho, l1, l2, _⟩ := newG_is e4
  have hv : v < ρ.length := by rw [← R.len, hlen]; have := hid.1; omega
  unfold tAsg tMat
  refine mat_rd R e2 e3 hv hia a0 a1 b0 b1 fun p bs H' G' E R' hp hb N => ?_
  obtain ⟨f1, f2, f3, f4, f5⟩ := mat_done e4 (by rw [hlen]; exact hid.1) Ext.refl E R' hb N
  obtain ⟨E2, R2⟩ := oll_ok f1 f2 hp (by rw [List.length_map, hb]) l1 f5 f4 e5
  refine ⟨_, ⟨?_, fun i x hx hz => ?_⟩, f _ _ _ E2 R2⟩
  · rw [List.length_set, List.length_set, fillS_len]
  · have out : i < lo ∨ lo + b.toNat ≤ i := by
      by_cases c1 : i < lo
      · exact .inl c1
      · by_cases c2 : lo + mx ≤ i
        · exact .inr (by omega)
        · exact absurd hz (hid.2 (i - lo) (by omega) x (by rw [show lo + (i - lo) = i by omega]; exact hx))
    by_cases hij : j = i
    · subst hij
      by_cases hjl : j < σ.length
      · rw [List.getElem?_set_self (by rw [fillS_len]; exact hjl), List.getElem?_set_self hjl]
      · rw [List.getElem?_eq_none (by rw [List.length_set, fillS_len]; omega), List.getElem?_eq_none (by rw [List.length_set]; omega)]
    · rw [List.getElem?_set_ne hij, List.getElem?_set_ne hij, fillS_out out]
theorem s_parm {i1 i2 j lo mx v ia ib : Nat} {e1 e2 : E} {st : Stmt} (hid : Hid X lo mx) (h : PS X st (tPar3 i1 i2 j (tCons (tE c e1) (tCons (tE c e2) (tCons (tMat c v ia ib) tNil))))) : PS X st (tS c (.parm i1 e1 i2 e2 j lo mx v ia ib)) := by
  refine ⟨fun pins s σ H D I q => (PS.ghost h).run pins s σ H D I ?_⟩
  have hlen := I.len
  obtain ⟨G, ρ, o, ρ', R, e0, f⟩ := q
  unfold ex at e0
  have hia : ia ≠ v := fun z => by rw [if_pos (decide_eq_true z)] at e0; cases e0
  rw [if_neg (by simpa using hia)] at e0
  obtain ⟨w1, ρ1, g1, e0⟩ := bd_some e0
  obtain ⟨w2, ρ2, g2, e0⟩ := bd_some e0
  obtain ⟨a, g3, e0⟩ := ob_some e0
  obtain ⟨b, g4, e0⟩ := ob_some e0
  obtain ⟨ρ3, g5, e0⟩ := ob_some e0
  obtain ⟨hi, e0⟩ := ite_ob e0
  obtain ⟨ρ4, g6, e0⟩ := ob_some e0
  obtain ⟨ρ5, g7, e0⟩ := ob_some e0
  obtain ⟨ρ6, g8, e0⟩ := ob_some e0
  cases e0
  obtain ⟨i1l, i2l⟩ := and2 hi
  have i1l := of_decide_eq_true i1l
  have i2l := of_decide_eq_true i2l
  obtain ⟨⟨a0, a1, b0, b1⟩, m1, un, ho, l1, l2, _⟩ := newG_is g5
  refine ⟨G, ρ, w1, ρ1, R, g1, fun v1 H1 G1 E1 R1 S1 => ⟨G1, ρ1, w2, ρ2, R1, g2, fun v2 H2 G2 E2 R2 S2 => ?_⟩⟩
  have hv : v < ρ2.length := by rw [← R2.len, hlen]; have := hid.1; omega
  dsimp only
  unfold tCons tMat
  refine mat_rd R2 g3 g4 hv hia a0 a1 b0 b1 fun p bs H3 G3 E3 R3 hp hb N => ?_
  obtain ⟨f1, f2, f3, f4, f5⟩ := mat_done g5 (by rw [hlen]; exact hid.1) (E1.trans E2) E3 R3 hb N
  have T1 := (S1.wait E2).wait E3
  have T2 := (S2.wait E3).older E1.dom
  -- the first two values stand apart from the rows and from each other
  have ap1 : ∀ d, v1 = .ref d → hot w1 = true → H2 d ≠ none := fun d z hz => by
    subst z
    cases S1.wait E2 with
    | val _ => cases hz
    | own h1 _ _ _ _ => rw [h1]; exact fun z => nomatch z
    | dct h1 _ _ _ _ => rw [h1]; exact fun z => nomatch z
    | dk h1 _ _ _ _ => rw [h1]; exact fun z => nomatch z
  have ap2 : ∀ d, v2 = .ref d → hot w2 = true → H2 d ≠ none ∧ H1 d = none := fun d z hz => by
    subst z
    cases S2 with
    | val _ => cases hz
    | own h1 _ _ n _ => rw [h1]; exact ⟨(fun z => nomatch z), n⟩
    | dct h1 _ _ n _ => rw [h1]; exact ⟨(fun z => nomatch z), n⟩
    | dk h1 _ _ n _ => rw [h1]; exact ⟨(fun z => nomatch z), n⟩
  have ap3 : ∀ d, v1 = .ref d → hot w1 = true → H1 d ≠ none := fun d z hz => by
    subst z
    cases S1 with
    | val _ => cases hz
    | own h1 _ _ _ _ => rw [h1]; exact fun z => nomatch z
    | dct h1 _ _ _ _ => rw [h1]; exact fun z => nomatch z
    | dk h1 _ _ _ _ => rw [h1]; exact fun z => nomatch z
  have nb : ∀ d, d ∈ bs → H2 d = none := fun d hd => (N.at_ d hd).1
  have U1 : SvT G H σ ρ G3 H3 (fillS σ lo (bs.map V.ref) b.toNat) ρ3 v1 w1 := by
    have no : ∀ d, v1 = .ref d → hot w1 = true → ¬ HotAt σ (back ρ2 (wipe ρ2 [v]) [v]) d → ¬ HotAt (fillS σ lo (bs.map V.ref) b.toNat) ρ3 d := fun d hd hz n z => by
      rcases f3 d z with z | z
      · exact n z
      · exact ap1 d hd hz (nb d z)
    cases T1 with
    | val q => exact .val q
    | own h g q n c => exact .own h g q (.inr n) (no _ rfl rfl c)
    | dct h g q n c => exact .dct h g q (.inr n) (no _ rfl rfl c)
    | dk h g q n c => exact .dk h g q (.inr n) (no _ rfl rfl c)
  obtain ⟨E4, R4, h4⟩ := put_ok f1 f2 U1 g6
  have U2 : SvT G H σ ρ G3 H3 ((fillS σ lo (bs.map V.ref) b.toNat).set i1 (some v1)) ρ4 v2 w2 := by
    have no : ∀ d, v2 = .ref d → hot w2 = true → ¬ HotAt σ (back ρ2 (wipe ρ2 [v]) [v]) d → ¬ HotAt ((fillS σ lo (bs.map V.ref) b.toNat).set i1 (some v1)) ρ4 d := fun d hd hz n z => by
      rcases h4 d z with z | ⟨z1, z2⟩
      · rcases f3 d z with z | z
        · exact n z
        · exact (ap2 d hd hz).1 (nb d z)
      · exact ap3 d z1 z2 (ap2 d hd hz).2
    cases T2 with
    | val q => exact .val q
    | own h g q n c => exact .own h g q (.inr n) (no _ rfl rfl c)
    | dct h g q n c => exact .dct h g q (.inr n) (no _ rfl rfl c)
    | dk h g q n c => exact .dk h g q (.inr n) (no _ rfl rfl c)
  obtain ⟨E5, R5, _⟩ := put_ok E4 R4 U2 g7
  have no4 : ∀ (i l n : Nat), ρ5[i]? ≠ some (.oll l n) := fun i l n z => by
    obtain ⟨p5, _, _⟩ := put_is g7
    obtain ⟨p4, _, _⟩ := put_is g6
    subst p5 p4
    rcases set_at z with ⟨_, z⟩ | ⟨_, z⟩
    · subst z; cases U2
    · rcases set_at z with ⟨_, z⟩ | ⟨_, z⟩
      · subst z; cases U1
      · exact f4 i l n z
  obtain ⟨E6, R6⟩ := oll_ok E5 R5 hp (by rw [List.length_map, hb]) l1 (fun k hk => by rw [List.getElem?_set_ne (by omega), List.getElem?_set_ne (by omega)]; exact f5 k hk) no4 g8
  refine ⟨v1, v2, .ref p, rfl, _, ⟨?_, fun i x hx hz => ?_⟩, f _ _ _ E6 R6⟩
  · rw [List.length_set, List.length_set, List.length_set, List.length_set, List.length_set, List.length_set, fillS_len]
  · have out : i < lo ∨ lo + b.toNat ≤ i := by
      by_cases c1 : i < lo
      · exact .inl c1
      · by_cases c2 : lo + mx ≤ i
        · exact .inr (by omega)
        · exact absurd hz (hid.2 (i - lo) (by omega) x (by rw [show lo + (i - lo) = i by omega]; exact hx))
    have one : ∀ {τ τ' : St} (k : Nat) (o : Option V), τ'.length = τ.length → τ'[i]? = τ[i]? → (τ'.set k o)[i]? = (τ.set k o)[i]? := fun {τ τ'} k o hl he => by
      by_cases hki : k = i
      · subst hki
        by_cases hk : k < τ.length
        · rw [List.getElem?_set_self (by rw [hl]; exact hk), List.getElem?_set_self hk]
        · rw [List.getElem?_eq_none (by rw [List.length_set, hl]; omega), List.getElem?_eq_none (by rw [List.length_set]; omega)]
      · rw [List.getElem?_set_ne hki, List.getElem?_set_ne hki, he]
    exact one _ _ (by simp [fillS_len]) (one _ _ (by simp [fillS_len]) (one _ _ (by rw [fillS_len]) (fillS_out out)))
end
end DP

/-! a loop over a list of defs -/
namespace DP
open PySem PySem.Spec PyProof.Rows L2
variable [CA : ClsA]
section
variable {X : Cx} {c : FT} {a b es : E} {a0 b0 : Expr} {es0 : List Expr} {pos : Pos} {σ : St} {H : Hp} {Q : VK}
theorem d_e (h : tD c a σ H Q) : tE c a σ H Q := by
  obtain ⟨G, ρ, sv, d, ρ', R, e, z, q⟩ := h
  exact ⟨G, ρ, sv, ρ', R, e, fun v H' G' E R' S => by
    obtain ⟨G2, E2, R2, D2⟩ := freeze E R' S z
    exact q v H' G2 E2 R2 D2⟩
theorem r_d (n : isVar a = none) (h : tR c a σ H Q) : tD c a σ H Q := by
  obtain ⟨G, ρ, d, ρ', R, e1, q⟩ := h
  unfold rdr at e1
  rw [n] at e1
  obtain ⟨sv, ρ1, dd, e2, z2, e1⟩ := bz_some e1
  cases e1
  exact ⟨G, ρ, sv, _, _, R, e2, z2, fun v H1 G1 E1 R1 D1 => q v H1 G1 E1 R1 (.inl D1)⟩
/-- a call of the def that slot i holds -/
theorem s_callL {f k i : Nat} {fa : Addr} {fd : FuncData} {ps : List Str} {x : Str} {p : Pos} (F : FnOk X.prog X.w X.K X.mg X.base CX0 k fa fd ps (spF c f false)) (hr : Room k X.A) (hN : X.N[i]? = some x) (hv : Vis X.env.scope x)
    (hk : PySem.W.keepIn X.K (.ref fa) = true) (hb : Binds X.K fd ps []) (ha : PA X (a0 :: es0) (tA c es)) (hdb : (x == ("__debug__" : Str)) = false) (hcd : (x == ("__classdict__" : Str)) = false) (he : starEach (a0 :: es0) X.env = (false, eval a0 X.env) :: starEach es0 X.env)
    (hpl : (backTo pos (starEach es0 X.env)).any (·.1) = false) : PE X (.Call (.Name x p) (a0 :: es0) [] pos) (fun σ H Q => σ[i]? = some (some (.ref fa)) ∧ tE c (.call f es) σ H Q) :=
  PE.le (pe_callL F hr hN hv hk hb .nil pass0 ha hdb hcd he hpl) fun σ H Q ⟨h1, h⟩ => ⟨h1, call_rd h⟩
/-- W(x) != W(y) -/
theorem t_cmpL {f k i : Nat} {fa : Addr} {o : Cm} {es es2 : E} (hr : Room k X.A) (hm : behindInMarks (cmO o) b0 = false) (ha : PE X a0 (fun σ H Q => σ[i]? = some (some (.ref fa)) ∧ tE c (.call f es) σ H Q)) (hb : PE X b0 (fun σ H Q => σ[i]? = some (some (.ref fa)) ∧ tE c (.call f es2) σ H Q)) :
    PT X (.Compare a0 [cmO o] [b0] pos) (fun σ H Q => σ[i]? = some (some (.ref fa)) ∧ tT c (.cmp o (.call f es) (.call f es2)) σ H Q) :=
  PT.le (pt_cmpR (cm_ok (by have := hr.un; omega) o) (PE.le ha fun σ H Q (h : σ[i]? = some (some (.ref fa)) ∧ tD c (.call f es) σ H Q) => ⟨h.1, d_e h.2⟩) (PE.le hb fun σ H Q (h : σ[i]? = some (some (.ref fa)) ∧ tR c (.call f es2) σ H Q) => ⟨h.1, d_e (r_d rfl h.2)⟩) hm) fun σ H Q ⟨hs, G, ρ, sv, bb, ρ', R, e, z, q⟩ => by
    unfold ev at e
    obtain ⟨sva, ρ1, dx, e1, z1, e⟩ := bz_some e
    obtain ⟨dy, ρ2, e2, e⟩ := bd_some e
    obtain ⟨w, e3, e⟩ := ob_some e
    cases e
    cases z
    exact ⟨hs, G, ρ, sva, dx, _, R, e1, z1, fun x H1 G1 E1 R1 D1 => ⟨hs, G1, _, dy, _, R1, e2, fun y H2 G2 E2 R2 D2 => ⟨G2, dx, dy, bb, R2.le, D1.mono E2.sub, D2, e3, bb, rfl, q H2 G2 (E1.trans E2) R2⟩⟩⟩
/-- if W(x) != W(y): .. -/
theorem s_iteL {f i : Nat} {fa : Addr} {k : E} {k0 : Expr} {p q : List Stmt} {s1 s2 : S} (hk : PT X k0 (fun σ H Q => σ[i]? = some (some (.ref fa)) ∧ tT c k σ H Q)) (ha : PSs X p (tS c s1)) (hb : PSs X q (tS c s2)) :
    PS X (.If k0 p q pos) (fun D σ H => σ[i]? = some (some (.ref fa)) ∧ tS c (.ite k s1 s2) D σ H) := PS.le (ps_if hk ha hb) fun D σ H ⟨hs, G, ρ, o, ρ', R, e1, f⟩ => by
  unfold ex at e1
  obtain ⟨sv, ρ1, t, e2, z, e1⟩ := bt_some e1
  refine ⟨hs, G, ρ, sv, t, ρ1, R, e2, z, fun H' G' E R' => ?_⟩
  cases t with
  | true => rw [if_pos rfl] at e1; rw [if_pos rfl]; exact ⟨G', ρ1, o, ρ', R', e1, f.on E⟩
  | false => rw [if_neg Bool.false_ne_true] at e1; rw [if_neg Bool.false_ne_true]; exact ⟨G', ρ1, o, ρ', R', e1, f.on E⟩
/-! ### the display of the defs' names, its walk -/
/-- the defs' objects, in order -/
inductive Gls (X : Cx) : List Expr → List Addr → Prop
  | nil : Gls X [] []
  | cons {x : Str} {p : Pos} {fa : Addr} {es : List Expr} {fs : List Addr} : Gl X x → X.mg x = some (.ref fa) → (x == ("__debug__" : Str)) = false → Gls X es fs → Gls X (.Name x p :: es) (fa :: fs)
theorem pa_gls : ∀ {es : List Expr} {fs : List Addr}, Gls X es fs → PA X es (fun σ H Q => Q (fs.map V.ref) H)
  | _, _, .nil => PA.le pa_nil fun σ H Q h => h
  | _, _, @Gls.cons _ x p fa es fs hg hm hd r => PA.le (pa_cons (pe_glob (v := V.ref fa) hg hm rfl hd) (pa_gls r) rfl) fun σ H Q h => h
/-- a slot that nothing is known of -/
theorem hot_unN {σ : L2.St} {ρ : Rho} {i : Nat} {o : Option V} {b : Addr} (h : ρ[i]? = some .un) (z : HotAt (σ.set i o) ρ b) : HotAt σ ρ b := by
  obtain ⟨j, sv, h1, h2, h3⟩ := z
  have hj : i ≠ j := fun e => by subst e; rw [h] at h2; cases h2; cases h3
  rw [List.getElem?_set_ne hj] at h1
  exact ⟨j, sv, h1, h2, h3⟩
theorem un_slot {G H : Hp} {σ : L2.St} {ρ : Rho} {i : Nat} {o : Option V} (h : ρ[i]? = some .un) (R : Rel G H σ ρ) : Ext G H σ ρ G H (σ.set i o) ρ ∧ Rel G H (σ.set i o) ρ := by
  have ne : ∀ {j : Nat} {sv : SV}, ρ[j]? = some sv → hot sv = true → i ≠ j := fun {j sv} h2 h3 e => by subst e; rw [h] at h2; cases h2; cases h3
  refine ⟨⟨Same.refl _, fun _ _ h _ => h, fun _ _ _ h _ _ => h, fun _ h => h, fun b z => .inl (hot_unN h z), fun k b d k1 k2 => ⟨?_, k2⟩⟩, ⟨R.le, by rw [List.length_set]; exact R.len, fun j u sv h1 h2 => ?_, fun j l b w w' k1 k2 k3 l1 l2 l3 => ?_, fun j lo n e => ?_⟩⟩
  · have hk : i ≠ k := fun e => by subst e; rw [h] at k2; cases k2
    rw [List.getElem?_set_ne hk]; exact k1
  · by_cases hj : i = j
    · subst hj
      rw [h] at h2
      cases h2
      exact .un _
    · rw [List.getElem?_set_ne hj] at h1
      exact R.slot j u sv h1 h2
  · rw [List.getElem?_set_ne (ne k2 k3)] at k1
    rw [List.getElem?_set_ne (ne l2 l3)] at l1
    exact R.sep j l b w w' k1 k2 k3 l1 l2 l3
  · obtain ⟨a, xs, h1, h2, h3, h4⟩ := R.tie j lo n e
    have hj : i ≠ j := fun z => by subst z; rw [h] at e; cases e
    refine ⟨a, xs, by rw [List.getElem?_set_ne hj]; exact h1, h2, h3, fun k ds hk hg => ?_⟩
    have hk2 : i ≠ lo + k := fun z => by subst z; rw [h] at hg; cases hg
    rw [List.getElem?_set_ne hk2]
    exact h4 k ds hk hg
def turnN (c : FT) (i a b : Nat) (r : S) (f : Nat) (ρ : Rho) : Option (Out × Rho) := match ρ[i]? with
  | some .un => ex c (.ite (cmpE f a b) r .skip) ρ
  | _ => none
theorem s_fneq {fs : List Nat} {fas : List Addr} {i a b : Nat} {r : S} {tg : Expr} {es : List Expr} {p2 : Pos} {body : List Stmt} (hp : PassesOwn (model X.prog X.w) X.A X.env X.xe) (hc : X.calm = true) (gl : Gls X es fas) (hl : fas.length = fs.length) (hz : fas.length ≤ 1000) (hg : PG X tg (gName i))
    (hb : ∀ (j f : Nat) (fa : Addr), fs[j]? = some f → fas[j]? = some fa → PSs X body (fun D σ H => σ[i]? = some (some (.ref fa)) ∧ tS c (.ite (cmpE f a b) r .skip) D σ H)) (hs : ∀ x, foldedSetIterable (.List es p2) X.env x = pure x) :
    PS X (.For tg (.List es p2) body [] pos) (fun D σ H => ∃ G ρ o ρ', Rel G H σ ρ ∧ forN (turnN c i a b r) fs ρ = some (o, ρ') ∧ fin D G H σ ρ o ρ') :=
  PS.le (ps_for hp hc (pi_list (pe_lst (pa_gls gl))) hg (tb := fun D σ H => ∃ j f fa, fs[j]? = some f ∧ fas[j]? = some fa ∧ σ[i]? = some (some (.ref fa)) ∧ tS c (.ite (cmpE f a b) r .skip) D σ H) ⟨fun pins s σ H D I ⟨j, f, fa, h1, h2, h⟩ => (hb j f fa h1 h2).run pins s σ H D I h⟩ hs) fun D σ H ⟨G, ρ, o, ρ', R, e1, f⟩ => by
    refine ⟨by rw [List.length_map]; exact Nat.le_trans hz (by decide), fun p np => ⟨p, rfl, ⟨_, SqL.of upd_same⟩, ?_⟩⟩
    have hot_p := (R.new np).1
    have s1 : Same H (upd H p (.lst (fas.map V.ref))) := same_upd np
    have E1 : Ext G H σ ρ G (upd H p (.lst (fas.map V.ref))) σ ρ := ⟨Same.refl _, fun b o h _ => s1 b o h, fun _ _ _ g _ _ => g, fun b h => s1.free h, fun _ h => .inl h, fun _ _ _ h1 h2 => ⟨h1, h2⟩⟩
    have R1 : Rel G (upd H p (.lst (fas.map V.ref))) σ ρ := R.grow (Same.refl _) (R.le.trans s1) fun b u z h => ⟨s1 _ _ h, R.hotG z⟩
    refine ⟨fun n m σ2 H2 => m = fs.length - n ∧ n ≤ fs.length ∧ ∃ G2 ρ2, Ext G (upd H p (.lst (fas.map V.ref))) σ ρ G2 H2 σ2 ρ2 ∧ Rel G2 H2 σ2 ρ2 ∧ forN (turnN c i a b r) (fs.drop n) ρ2 = some (o, ρ'),
      ⟨_, rfl, Nat.zero_le _, G, ρ, Ext.refl, R1, e1⟩, ?_⟩
    rintro n m σ2 H2 ⟨rfl, hn, G2, ρ2, E2, R2, e3⟩
    have hS : SqL X.K H2 p (fas.map V.ref) := SqL.of (E2.keep p _ upd_same hot_p)
    by_cases hlt : n < fs.length
    · have hfn : n < fas.length := by omega
      have hx : (fas.map V.ref)[n]? = some (V.ref fas[n]) := by rw [List.getElem?_map, List.getElem?_eq_getElem hfn]; rfl
      refine .inr ⟨⟨_, _, hS, hx⟩, fun σ' H' => ∃ m', m' < fs.length - n ∧ (m' = fs.length - (n + 1) ∧ n + 1 ≤ fs.length ∧ ∃ G2 ρ2, Ext G (upd H p (.lst (fas.map V.ref))) σ ρ G2 H' σ' ρ2 ∧ Rel G2 H' σ' ρ2 ∧ forN (turnN c i a b r) (fs.drop (n + 1)) ρ2 = some (o, ρ')), fun _ _ h => h, fun x H3 yl => ?_⟩
      obtain ⟨rfl, yl⟩ := yl
      have ex_ := yl _ hS
      rw [hx] at ex_
      cases ex_
      rw [List.drop_eq_getElem_cons hlt] at e3
      unfold forN at e3
      cases eb : turnN c i a b r fs[n] ρ2 with
      | none => rw [eb] at e3; cases e3
      | some pr =>
        obtain ⟨o2, ρ7⟩ := pr
        rw [eb] at e3
        unfold turnN at eb
        have hun : ρ2[i]? = some .un := by
          cases q : ρ2[i]? with
          | none => rw [q] at eb; cases eb
          | some w => cases w <;> first | rfl | (rw [q] at eb; cases eb)
        rw [hun] at eb
        have eb : ex c (.ite (cmpE fs[n] a b) r .skip) ρ2 = some (o2, ρ7) := eb
        obtain ⟨E3, R3⟩ := un_slot (o := some (V.ref fas[n])) hun R2
        have hil : i < σ2.length := by rw [R2.len]; exact (List.getElem?_eq_some_iff.mp hun).1
        refine ⟨n, fs[n], fas[n], List.getElem?_eq_getElem hlt, List.getElem?_eq_getElem hfn, by rw [List.getElem?_set_self hil], G2, ρ2, o2, ρ7, R3, eb, fun σ' H' G' E R' => ?_⟩
        have E' := E2.trans (E3.trans E)
        cases o2 with
        | nx => exact ⟨_, by omega, rfl, hlt, G', ρ7, E', R', e3⟩
        | ct => exact ⟨_, by omega, rfl, hlt, G', ρ7, E', R', e3⟩
        | bk => cases e3; exact f _ _ _ (E1.trans E') R'
        | rt v => cases e3; exact (f _ _ _ (E1.trans E') R').on (E1.trans (E2.trans E3))
    · have en : n = fs.length := by omega
      subst en
      rw [List.drop_length] at e3
      unfold forN at e3
      cases e3
      exact .inl ⟨⟨_, hS, by rw [List.length_map]; omega⟩, f _ _ _ (E1.trans E2) R2⟩
end
end DP

/-! instances of an own class: fields stored, instances made -/
namespace DP
open PySem PySem.Spec PyProof.Rows L2
variable [CA : ClsA]
section
variable {X : Cx} {c : FT} {e : E} {a0 value : Expr} {pos : Pos}
theorem s_fset {j : Nat} {f y : Str} {p2 p3 : Pos} (hc : Cls X.K CA.a ∧ NoAttr X.K CA.a f) (hv : PE X (.Name y p2) (tVar j)) (he : PE X value (tE c e)) (hs : swapsWith value (some (.Attribute (.Name y p2) f p3)) pos.line X.env = pure false) :
    PS X (.Assign [.Attribute (.Name y p2) f p3] value pos) (tS c (.fset j f e)) := PS.le (ps_fld hv (sD he) hs) fun D σ H ⟨G, ρ, o, ρ', R, e1, fn⟩ => by
  unfold ex at e1
  obtain ⟨sv, ρ1, d, e2, z, e1⟩ := bz_some e1
  obtain ⟨fs, e4, e1⟩ := ob_some e1
  obtain ⟨hl, e1⟩ := ite_if e1
  cases e1
  refine ⟨G, ρ, sv, d, _, R, e2, z, fun v H1 G1 E1 R1 D1 => ?_⟩
  obtain ⟨a, dx, us, k1, k3, h1, g1, d1, o1⟩ := slotO_at R1 e4
  obtain ⟨c1, c2⟩ := hc
  refine ⟨.ref a, k1, a, CA.a, dx, us, rfl, h1, c1, c2, by rw [d1.len]; omega, ?_⟩
  obtain ⟨E2, R2, _⟩ := R1.wroteX (G' := G1) (H' := upd H1 a (.ins CA.a dx (L2.putF f v us))) (sv := .obj (putO f d fs)) k1 k3 rfl rfl (Same.refl _) (fun b o h => by
    have : b ≠ a := fun z => by subst z; rw [g1] at h; cases h
    rw [upd_ne this]; exact R1.le b o h) (fun b o hb h => by rw [upd_ne hb]; exact h) (fun b o hb h g t => g) upd_same (.obj upd_same g1 (d1.put D1)) (fun b z => z) (.inl rfl)
  exact fn _ _ _ (E1.trans E2) R2
theorem s_faug {j : Nat} {f y : Str} {p2 p3 : Pos} (hc : Cls X.K CA.a ∧ NoAttr X.K CA.a f) (hv : PE X (.Name y p2) (tVar j)) (he : PE X value (tE c e)) :
    PS X (.AugAssign (.Attribute (.Name y p2) f p3) .Add value pos) (tS c (.faug j f .add e)) := PS.le (ps_fldaug hv (sD he) in_add) fun D σ H ⟨G, ρ, o, ρ', R, e1, fn⟩ => by
  unfold ex at e1
  obtain ⟨fs0, e4, e1⟩ := ob_some e1
  obtain ⟨x, e5, e1⟩ := ob_some e1
  obtain ⟨sv, ρ1, d, e2, z, e1⟩ := bz_some e1
  obtain ⟨fs, e6, e1⟩ := ob_some e1
  obtain ⟨hl, e1⟩ := ite_if e1
  cases x with
  | int m =>
    cases d with
    | int n =>
      cases e1
      obtain ⟨a, dx0, us0, k1, k3, h1, g1, d1, o1⟩ := slotO_at R e4
      obtain ⟨c1, c2⟩ := hc
      obtain ⟨v, l1, l2⟩ := d1.look e5
      cases l2
      refine ⟨.ref a, k1, a, CA.a, dx0, us0, .int m, rfl, h1, c1, c2, l1, G, ρ, sv, _, _, R, e2, z, fun w H1 G1 E1 R1 D1 => ?_⟩
      cases D1
      obtain ⟨a', dx, us, k2, k4, h2, g2, d2, o2⟩ := slotO_at R1 e6
      have ka := (E1.row j a 2 k1 (by rw [k3]; rfl)).1
      rw [ka] at k2
      cases k2
      refine ⟨m, n, rfl, rfl, dx, us, h2, by rw [d2.len]; omega, ?_⟩
      obtain ⟨E2, R2, _⟩ := R1.wroteX (G' := G1) (H' := upd H1 a (.ins CA.a dx (L2.putF f (.int (m + n)) us))) (sv := .obj (putO f (.int (m + n)) fs)) ka k4 rfl rfl (Same.refl _) (fun b o h => by
        have : b ≠ a := fun z => by subst z; rw [g2] at h; cases h
        rw [upd_ne this]; exact R1.le b o h) (fun b o hb h => by rw [upd_ne hb]; exact h) (fun b o hb h g t => g) upd_same (.obj upd_same g2 (d2.put (.int _))) (fun b z => z) (.inl rfl)
      exact fn _ _ _ (E1.trans E2) R2
    | _ => cases e1
  | _ => cases e1
theorem s_trn {st : Stmt} {s : S} (h : PS X st (tS c s)) : PS X st (tS c (.trn s)) := PS.le h fun D σ H ⟨G, ρ, o, ρ', R, e1, fn⟩ => ⟨G, ρ, o, ρ', R, by unfold ex at e1; exact e1, fn⟩
theorem s_mko {j f k : Nat} {fI : Addr} {fd : FuncData} {ps : List Str} {x : Str} {p p0 : Pos} {st : Stmt} (M : Mk X.K CA.a fI) (F : FnOk X.prog X.w X.K X.mg X.base CX0 k fI fd ps (spF c f true)) (hr : Room (k + 1) X.A) (hg : Gl X x) (hm : X.mg x = some (.ref CA.a))
    (hb : Binds X.K fd ps []) (he : PE X a0 (tE c e)) (hdb : (x == ("__debug__" : Str)) = false) (hst : starEach [a0] X.env = (false, eval a0 X.env) :: starEach [] X.env) (no : isOb f = true)
    (hps : PE X (.Call (.Name x p) [a0] [] p0) (tMake CA.a (spF c f true) [] E0 (tCons (tD c e) tNil)) → PS X st (tAsg (tMake CA.a (spF c f true) [] E0 (tCons (tD c e) tNil)) (gName j))) : PS X st (tS c (.mko j f e)) := by
  refine PS.le (hps (pe_make M F hr hg hm hb .nil pass0 (pa_cons (sD he) pa_nil hst) hdb hst rfl)) fun D σ H ⟨G, ρ, o, ρ', R, e1, fn⟩ => ?_
  unfold ex at e1
  obtain ⟨sv, ρ1, d, e2, z, e1⟩ := bz_some e1
  have hun : ρ1[j]? = some .un := by
    cases q : ρ1[j]? with
    | none => rw [q] at e1; cases e1
    | some w => rw [q] at e1; cases w <;> first | rfl | cases e1
  rw [hun] at e1
  obtain ⟨pr, e4, e1⟩ := ob_some e1
  obtain ⟨sv2, es2⟩ := pr
  obtain ⟨fs', e5, e1⟩ := ob_some e1
  have hsv : sv2 = .val .none := by
    cases sv2 with
    | val dd => cases dd <;> first | rfl | cases e1
    | _ => cases e1
  subst hsv
  cases e1
  refine ⟨G, ρ, sv, d, _, R, e2, z, fun v H1 G1 E1 R1 D1 => ?_⟩
  intro x dx nx ndx nex
  obtain ⟨nhx, gx⟩ := R1.new nx
  have hxe : upd (upd H1 dx (.own x)) x (.ins CA.a dx []) x = some (.ins CA.a dx []) := upd_same
  have le1 : Same H1 (upd (upd H1 dx (.own x)) x (.ins CA.a dx [])) := fun b o h => by
    have n1 : b ≠ x := fun z => by subst z; rw [nx] at h; cases h
    have n2 : b ≠ dx := fun z => by subst z; rw [ndx] at h; cases h
    rw [upd_ne n1, upd_ne n2]; exact h
  show spF c f true (.ref x :: ([v] ++ [])) _ _ _
  rw [List.append_nil]
  refine .inr (.inr ⟨no, G1, x, dx, [], [], [v], [d], .val .none, es2, fs', rfl, R1.le.trans le1, hxe, gx, .nil, .cons D1 .nil, e4, e5, fun w H2 N => ?_⟩)
  obtain ⟨G2, dx', us', s1, s2, kp, cl, g3, h3, d3, V2⟩ := N
  refine ⟨by cases V2; rfl, ?_⟩
  have keepH : ∀ b o, H1 b = some o → H2 b = some o := fun b o h => by
    have n1 : b ≠ x := fun z => by subst z; rw [nx] at h; cases h
    exact kp b o n1 (le1 b o h)
  have coldG : ∀ b o, H1 b = some o → G1 b = none → NT o → G2 b = none := fun b o h g t => by
    have n1 : b ≠ x := fun z => by subst z; rw [nx] at h; cases h
    exact cl b o n1 (le1 b o h) g t
  have R2 : Rel G2 H2 σ ρ1 := R1.grow s1 s2 fun b u hz h => ⟨keepH b u h, coldG b u h (R1.hotG hz) (R1.ntH hz h)⟩
  have E2 : Ext G1 H1 σ ρ1 G2 H2 σ ρ1 := ⟨s1, fun b o h _ => keepH b o h, fun b o h g _ t => coldG b o h g t, fun b h => (by
    cases q : H1 b with
    | none => rfl
    | some o => rw [keepH b o q] at h; cases h), fun b h => .inl h, fun i b d h1 h2 => ⟨h1, h2⟩⟩
  obtain ⟨E3, R3, _⟩ := put_gen (E1.trans E2) R2 (.obj h3 g3 d3) (fun _ b hb => by
    cases hb
    exact ⟨.inr (E1.dom _ nx), nhx⟩) (List.getElem?_eq_some_iff.mp hun).1 (fun b hb => by rw [hun] at hb; cases hb) (R2.tie.set rfl fun k hk => List.getElem?_set_ne fun z => hk z.symm)
  exact fn _ _ _ E3 R3
theorem s_mkoX {j f k : Nat} {fI : Addr} {fd : FuncData} {ps : List Str} {y : Str} {p p0 : Pos} {st : Stmt} (hcl : X.mg y = some (.ref CA.a) ∧ PySem.W.makesIn X.K CA.a = true ∧ PySem.W.keepIn X.K (.ref CA.a) = true) (hg : Gl X y) (he : PE X a0 (tE c e)) (hdb : (y == ("__debug__" : Str)) = false)
    (hst : starEach [a0] X.env = (false, eval a0 X.env) :: starEach [] X.env) (no : isOb f = true) (F : FnOk X.prog X.w X.K X.mg X.base CX0 k fI fd ps (spF c f true)) (hr : Room (k + 1) X.A) (hb : Binds X.K fd ps []) (hm : Meth X.K CA.a (Str.ofString "__init__") fI)
    (hps : ∀ {te : TE}, PE X (.Call (.Name y p) [a0] [] p0) te → PS X st (tAsg te (gName j))) : PS X st (tS c (.mko j f e)) :=
  s_mko ⟨hcl.2.1, hm.at_, hm.fn, hcl.2.2⟩ F hr hg hcl.1 hb he hdb hst no fun h => hps h
end
end DP

/-! does a term of ours stand for a program's block? and then its answer is the program's -/
namespace DP
open PySem PySem.Spec PyProof.Rows L2
variable [CA : ClsA]

def fnC (C : Ck) : Bool := decide (C.sc.kind = .function)
theorem kindF {env : Env} (h : env.scope.kind = .function) : env.blockKind = .function := by
  unfold Env.blockKind
  rw [h]
  rfl
/-- is a comprehension's list stored as it is made -/
def swF (sc : Scope) (x : Str) (p : Pos) : Expr → Bool
  | .ListComp _ _ s vp => (sc.names.lookup x == some .local && p.line == vp.line) && !(s.names.any fun (n, k) => n == x && (k == .local || k == .cell))
  | .SetComp _ _ s vp => (sc.names.lookup x == some .local && p.line == vp.line) && !(s.names.any fun (n, k) => n == x && (k == .local || k == .cell))
  | .DictComp _ _ _ s vp => (sc.names.lookup x == some .local && p.line == vp.line) && !(s.names.any fun (n, k) => n == x && (k == .local || k == .cell))
  | _ => false
theorem sw_no {e0 : Expr} {x : Str} {p : Pos} {l : Nat} {env : Env} (hk : env.scope.kind = .function) (h : swF env.scope x p e0 = false) : swapsWith e0 (some (.Name x p)) l env = pure false := by
  have hb := kindF hk
  have hl : env.kindOf x = env.scope.names.lookup x := rfl
  cases e0 with
  | ListComp a b s vp =>
    unfold swapsWith
    simp only [hb, hl, Expr.pos]
    have h : ((env.scope.names.lookup x == some .local && p.line == vp.line) && !(s.names.any fun (n, k) => n == x && (k == .local || k == .cell))) = false := h
    show (pure ((ScopeKind.function == ScopeKind.function && _ && _) && _) : Sem Bool) = pure false
    rw [show (ScopeKind.function == ScopeKind.function) = true from rfl, Bool.true_and, h]
  | SetComp a b s vp =>
    unfold swapsWith
    simp only [hb, hl, Expr.pos]
    have h : ((env.scope.names.lookup x == some .local && p.line == vp.line) && !(s.names.any fun (n, k) => n == x && (k == .local || k == .cell))) = false := h
    show (pure ((ScopeKind.function == ScopeKind.function && _ && _) && _) : Sem Bool) = pure false
    rw [show (ScopeKind.function == ScopeKind.function) = true from rfl, Bool.true_and, h]
  | DictComp a b d s vp =>
    unfold swapsWith
    simp only [hb, hl, Expr.pos]
    have h : ((env.scope.names.lookup x == some .local && p.line == vp.line) && !(s.names.any fun (n, k) => n == x && (k == .local || k == .cell))) = false := h
    show (pure ((ScopeKind.function == ScopeKind.function && _ && _) && _) : Sem Bool) = pure false
    rw [show (ScopeKind.function == ScopeKind.function) = true from rfl, Bool.true_and, h]
  | _ => rfl
def notCmp : Expr → Bool
  | .ListComp _ _ _ _ => false
  | .SetComp _ _ _ _ => false
  | .DictComp _ _ _ _ _ => false
  | _ => true
theorem sw_drop {e0 : Expr} {l : Nat} {env : Env} (h : notCmp e0 = true) : swapsWith e0 none l env = pure false := by
  cases e0 <;> first | rfl | cases h
theorem sw_tup {e0 : Expr} {ts : List Expr} {n : Nat} {p : Pos} {l : Nat} {env : Env} : swapsWithSole [.Tuple ts n p] e0 l env = pure false := by
  cases e0 <;> rfl
theorem sw_sub {e0 o i : Expr} {p : Pos} {l : Nat} {env : Env} : swapsWithSole [.Subscript o i p] e0 l env = pure false := by
  cases e0 <;> rfl
theorem sw_subS {e0 o i : Expr} {p : Pos} {l : Nat} {env : Env} : swapsWith e0 (some (.Subscript o i p)) l env = pure false := by
  cases e0 <;> rfl
theorem st_sub {e0 o i : Expr} {p : Pos} {env : Env} : swappedStores [.Subscript o i p] e0 env = pure none := by
  cases e0 <;> rfl
def notTup : Expr → Bool
  | .Tuple _ _ _ => false
  | _ => true
theorem st_tup {e0 : Expr} {ts : List Expr} {n : Nat} {p : Pos} {env : Env} (h : notTup e0 = true) : swappedStores [.Tuple ts n p] e0 env = pure none := by
  cases e0 <;> first | rfl | cases h
/-- names that are stored from the right -/
def parS (sc : Scope) (ln : Nat) : List Expr → Bool
  | [] => true
  | .Name x p :: r => (sc.names.lookup x == some .local && p.line == ln) && parS sc ln r
  | _ => false
def starry : Expr → Bool
  | .Starred _ _ => true
  | _ => false
def lineOf (ts : List Expr) : Nat := (ts.head?.map (·.pos.line)).getD 0
theorem st_par2 {x y : Str} {px py pt p2 : Pos} {a b : Expr} {kt k2 : Nat} {env : Env} (hk : env.scope.kind = .function) (hx : env.scope.names.lookup x = some .local) (hy : env.scope.names.lookup y = some .local) (hl : py.line = px.line) (hne : x ≠ y)
    (h1 : starry a = false) (h2 : starry b = false) (hf : [a, b].all (foldedForSure 8) = false) (hc : [a, b].all (constantsAlone 8) = false) : swappedStores [.Tuple [.Name x px, .Name y py] kt pt] (.Tuple [a, b] k2 p2) env = pure (some [x, y]) := by
  have hb := kindF hk
  have lx : env.kindOf x = some .local := hx
  have ly : env.kindOf y = some .local := hy
  have st : ([a, b].any fun | .Starred .. => true | _ => false) = false := by
    have q : ∀ e : Expr, starry e = false → (match e with | .Starred .. => true | _ => false) = false := fun e h => by cases e <;> first | rfl | cases h
    rw [List.any_cons, List.any_cons, q a h1, q b h2]
    rfl
  have nm : ([Expr.Name x px, Expr.Name y py].filterMap fun | .Name id pos => if env.kindOf id == some .local && pos.line == px.line then some id else none | _ => none) = [x, y] := by
    simp [lx, ly, hl]
  have ed : ([x, y].eraseDups.length != [x, y].length) = false := by
    have : (y == x) = false := beq_false_of_ne (Ne.symm hne)
    simp [List.eraseDups, List.eraseDupsBy, List.eraseDupsBy.loop, this]
  unfold swappedStores
  show (if (!(2 == 2 || 2 == 3) || 2 != 2 || env.blockKind != .function) = true then _ else _) = _
  rw [hb, if_neg (by decide)]
  show (if ([a, b].any fun | .Starred .. => true | _ => false) = true then _ else _) = _
  rw [st, if_neg Bool.false_ne_true]
  have key : ∀ (names : List Str), names = [x, y] → (if (names.length != 2 || names.eraseDups.length != names.length) = true then (pure none : Sem (Option (List Str))) else if [a, b].all (foldedForSure 8) = true then pure none else
      (have jp := fun (_ : PUnit) => (pure (some names) : Sem (Option (List Str))); if [a, b].all (constantsAlone 8) = true then (do let r ← unsupported "assign.tuple-of-constant-expressions:order-of-the-stores"; jp r) else jp ())) = pure (some [x, y]) := by
    rintro names rfl
    rw [ed, if_neg (by simp), hf, if_neg Bool.false_ne_true, hc]
    rfl
  exact key _ nm
theorem st_par3 {x y z : Str} {px py pz pt p2 : Pos} {a b c : Expr} {kt k2 : Nat} {env : Env} (hk : env.scope.kind = .function) (hx : env.scope.names.lookup x = some .local) (hy : env.scope.names.lookup y = some .local) (hz : env.scope.names.lookup z = some .local)
    (hl : py.line = px.line) (hl2 : pz.line = px.line) (hne : x ≠ y) (hne2 : x ≠ z) (hne3 : y ≠ z)
    (h1 : starry a = false) (h2 : starry b = false) (h3 : starry c = false) (hf : [a, b, c].all (foldedForSure 8) = false) (hc : [a, b, c].all (constantsAlone 8) = false) : swappedStores [.Tuple [.Name x px, .Name y py, .Name z pz] kt pt] (.Tuple [a, b, c] k2 p2) env = pure (some [x, y, z]) := by
  have hb := kindF hk
  have lx : env.kindOf x = some .local := hx
  have ly : env.kindOf y = some .local := hy
  have lz : env.kindOf z = some .local := hz
  have st : ([a, b, c].any fun | .Starred .. => true | _ => false) = false := by
    have q : ∀ e : Expr, starry e = false → (match e with | .Starred .. => true | _ => false) = false := fun e h => by cases e <;> first | rfl | cases h
    rw [List.any_cons, List.any_cons, List.any_cons, q a h1, q b h2, q c h3]
    rfl
  have nm : ([Expr.Name x px, Expr.Name y py, Expr.Name z pz].filterMap fun | .Name id pos => if env.kindOf id == some .local && pos.line == px.line then some id else none | _ => none) = [x, y, z] := by
    simp [lx, ly, lz, hl, hl2]
  have ed : ([x, y, z].eraseDups.length != [x, y, z].length) = false := by
    have e1 : (y == x) = false := beq_false_of_ne (Ne.symm hne)
    have e2 : (z == x) = false := beq_false_of_ne (Ne.symm hne2)
    have e3 : (z == y) = false := beq_false_of_ne (Ne.symm hne3)
    simp [List.eraseDups, List.eraseDupsBy, List.eraseDupsBy.loop, e1, e2, e3]
  unfold swappedStores
  show (if (!(3 == 2 || 3 == 3) || 3 != 3 || env.blockKind != .function) = true then _ else _) = _
  rw [hb, if_neg (by decide)]
  show (if ([a, b, c].any fun | .Starred .. => true | _ => false) = true then _ else _) = _
  rw [st, if_neg Bool.false_ne_true]
  have key : ∀ (names : List Str), names = [x, y, z] → (if (names.length != 3 || names.eraseDups.length != names.length) = true then (pure none : Sem (Option (List Str))) else if [a, b, c].all (foldedForSure 8) = true then pure none else
      (have jp := fun (_ : PUnit) => (pure (some names) : Sem (Option (List Str))); if [a, b, c].all (constantsAlone 8) = true then (do let r ← unsupported "assign.tuple-of-constant-expressions:order-of-the-stores"; jp r) else jp ())) = pure (some [x, y, z]) := by
    rintro names rfl
    rw [ed, if_neg (by simp), hf, if_neg Bool.false_ne_true, hc]
    rfl
  exact key _ nm
/-- a tuple of names and a tuple, stored from the left -/
def noPar (sc : Scope) (ts vs : List Expr) : Bool := !(ts.length == 2 || ts.length == 3) || vs.length != ts.length || vs.all (foldedForSure 8) || !parS sc (lineOf ts) ts
theorem parS_len {sc : Scope} {env : Env} (hs : env.scope = sc) : ∀ {ts : List Expr} {ln : Nat}, parS sc ln ts = false → (ts.filterMap fun | .Name id pos => if env.kindOf id == some .local && pos.line == ln then some id else none | _ => none).length < ts.length
  | [], _, h => by cases h
  | t :: r, ln, h => by
    have le : ∀ r : List Expr, (r.filterMap fun | .Name id pos => if env.kindOf id == some .local && pos.line == ln then some id else none | _ => none).length ≤ r.length := fun r => List.length_filterMap_le _ _
    by_cases hc : ∃ x p, t = .Name x p ∧ (sc.names.lookup x == some .local && p.line == ln) = true
    · obtain ⟨x, p, rfl, hc⟩ := hc
      have h : ((sc.names.lookup x == some .local && p.line == ln) && parS sc ln r) = false := h
      rw [hc, Bool.true_and] at h
      have ih := parS_len hs h
      have hc : (env.kindOf x == some .local && p.line == ln) = true := by subst hs; exact hc
      rw [List.filterMap_cons_some (b := x) (by simp only [hc]; rfl), List.length_cons, List.length_cons]
      omega
    · have e : (match t with | .Name id pos => if env.kindOf id == some .local && pos.line == ln then some id else none | _ => none) = none := by
        cases t with
        | Name x p =>
          by_cases hh : (env.kindOf x == some .local && p.line == ln) = true
          · exact absurd ⟨x, p, rfl, by subst hs; exact hh⟩ hc
          · exact if_neg hh
        | _ => rfl
      have e2 := List.filterMap_cons_none (f := fun (t : Expr) => match t with | .Name id pos => if env.kindOf id == some .local && pos.line == ln then some id else none | _ => none) (l := r) e
      have lr := le r
      refine Nat.lt_of_le_of_lt (Nat.le_of_eq (congrArg List.length e2)) ?_
      rw [List.length_cons]
      exact Nat.lt_succ_of_le lr
theorem st_none {ts vs : List Expr} {kt k2 : Nat} {pt p2 : Pos} {env : Env} (h : noPar env.scope ts vs = true) : swappedStores [.Tuple ts kt pt] (.Tuple vs k2 p2) env = pure none := by
  unfold swappedStores
  show (if (!(ts.length == 2 || ts.length == 3) || vs.length != ts.length || env.blockKind != .function) = true then _ else _) = _
  split
  · rfl
  · next h1 =>
    show (if (vs.any fun | .Starred .. => true | _ => false) = true then _ else _) = _
    split
    · rfl
    · show (if _ then _ else _) = _
      split
      · rfl
      · next h3 =>
        split
        · rfl
        · next h4 =>
          exfalso
          unfold noPar at h
          rw [Bool.or_eq_true, Bool.or_eq_true, Bool.or_eq_true] at h
          rw [Bool.or_eq_true, Bool.or_eq_true] at h1
          rcases h with ((h | h) | h) | h
          · exact h1 (.inl (.inl h))
          · exact h1 (.inl (.inr h))
          · exact h4 h
          · have q := parS_len (env := env) rfl (show parS env.scope (lineOf ts) ts = false by simpa using h)
            rw [Bool.or_eq_true] at h3
            exact h3 (.inl (bne_iff_ne.mpr (Nat.ne_of_lt q)))
end DP

/-! blocks and defs: the checker and what it gives -/
namespace DP
open PySem PySem.Spec PyProof.Rows L2
variable [CA : ClsA]

theorem nott {b : Bool} (h : (!b) = true) : b = false := by cases b <;> first | rfl | cases h
def isCompE : E → Bool
  | .comp _ _ _ _ _ => true
  | .comp2 _ _ _ _ _ _ _ _ _ => true
  | _ => false
def par2C (C : Ck) (is : List Nat) (ts vs : List Expr) : Bool := match is, ts, vs with
  | [i, j], [.Name x px, .Name y py], [a, b] => decide (C.N[i]? = some x) && decide (C.N[j]? = some y) && decide (i ≠ j) && decide (x ≠ y) && decide (C.sc.names.lookup x = some .local) && decide (C.sc.names.lookup y = some .local) && decide (py.line = px.line) &&
      !([a, b].all (foldedForSure 8)) && !([a, b].all (constantsAlone 8))
  | _, _, _ => false
def par3C (C : Ck) (is : List Nat) (ts vs : List Expr) : Bool := match is, ts, vs with
  | [i, j, l], [.Name x px, .Name y py, .Name z pz], [a, b, d] => (decide (C.N[i]? = some x) && decide (C.N[j]? = some y) && decide (C.N[l]? = some z)) && (decide (i ≠ j) && decide (i ≠ l) && decide (j ≠ l)) && (decide (x ≠ y) && decide (x ≠ z) && decide (y ≠ z)) &&
      (decide (C.sc.names.lookup x = some .local) && decide (C.sc.names.lookup y = some .local) && decide (C.sc.names.lookup z = some .local)) && (decide (py.line = px.line) && decide (pz.line = px.line)) &&
      !([a, b, d].all (foldedForSure 8)) && !([a, b, d].all (constantsAlone 8))
  | _, _, _ => false
/-- the ghosts' names are no names of the text -/
def hidC (C : Ck) (lo mx : Nat) : Bool := decide (lo + mx ≤ C.N.length) && (List.range mx).all fun k => match C.N[lo + k]? with | some x => !visC C.sc x | none => true
/-- [[0] * a for v in range(b)] -/
def matC (C : Ck) (v ia ib : Nat) (e0 : Expr) : Bool := match e0 with
  | .ListComp el0 [⟨tg, iter, [], 0⟩] scope _ => (blkC C.N C.sc scope (ownC C [v]) && tgC (blkK C scope) (.one v) tg && notSet iter) && chkI C (.rng1 (.var ib)) tg iter && chkE (blkK C scope) (zeroE ia) el0
  | _ => false
def glsC (C : Ck) : List Nat → List Expr → Bool
  | [], [] => true
  | f :: fs, .Name x _ :: es => (glC C.sc x && plainN x && decide (C.fid x = some (f, false))) && glsC C fs es
  | _, _ => false
def isAdd : Op2 → Bool
  | .add => true
  | _ => false
/-- what no store to an attribute is swapped with -/
def notCallE : Expr → Bool
  | .Name _ _ => true
  | .Constant _ _ _ => true
  | _ => false
mutual
def chkS (C : Ck) : S → Stmt → Bool
  | .set i e, st => (match st with | .Assign [.Name x p] e0 _ => stoC C i x && chkE C e e0 && fnC C && (!swF C.sc x p e0 || isCompE e) | _ => false)
  | .par is es, st => (match st with | .Assign [.Tuple ts _ _] (.Tuple vs _ _) _ => chkA C es vs && fnC C && (par2C C is ts vs || par3C C is ts vs || (noPar C.sc ts vs && namesC C is ts && okL is.length)) | _ => false)
  | .unp is e, st => (match st with | .Assign [.Tuple ts _ _] e0 _ => namesC C is ts && notTup e0 && chkE C e e0 | _ => false)
  | .seti j ix e, st => (match st with | .Assign [.Subscript (.Name x _) i0 _] e0 _ => varC C j x && notSl i0 && chkE C ix i0 && chkE C e e0 | _ => false)
  | .augi j ix o e, st => (match st with | .AugAssign (.Subscript (.Name x _) i0 _) op e0 _ => varC C j x && notSl i0 && opC o op && notPow o && chkE C ix i0 && chkE C e e0 | _ => false)
  | .aug i o e, st => (match st with | .AugAssign (.Name x _) op e0 _ => stoC C i x && opC o op && notPow o && chkE C e e0 | _ => false)
  | .app j e, st => (match st with | .Expr (.Call (.Attribute (.Name x _) nm ap) [a0] [] cp) _ => varC C j x && decide (nm = Str.ofString "append") && (ap.endLine == cp.line) && chkE C e a0 | _ => false)
  | .dput j ke e, st => (match st with | .Assign [.Subscript (.Name x _) i0 _] e0 _ => varC C j x && notSl i0 && chkE C ke i0 && chkE C e e0 | _ => false)
  | .dkp j ke e, st => (match st with | .Assign [.Subscript (.Name x _) i0 _] e0 _ => varC C j x && notSl i0 && chkE C ke i0 && chkE C e e0 | _ => false)
  | .mset j a b e, st => (match st with | .Assign [.Subscript (.Subscript (.Name x _) a0 _) b0 _] e0 _ => (varC C j x && notSl a0 && notSl b0) && (chkE C a a0 && chkE C b b0) && chkE C e e0 | _ => false)
  | .maug j a b o e, st => (match st with | .AugAssign (.Subscript (.Subscript (.Name x _) a0 _) b0 _) op e0 _ => (varC C j x && notSl a0 && notSl b0) && (opC o op && notPow o) && (chkE C a a0 && chkE C b b0 && chkE C e e0) | _ => false)
  | .mnew j lo mx v ia ib, st => (match st with | .Assign [.Name x p] e0 _ => (stoC C j x && fnC C && hidC C lo mx) && matC C v ia ib e0 && swF C.sc x p e0 | _ => false)
  | .parm i1 e1 i2 e2 j lo mx v ia ib, st => (match st with
    | .Assign [.Tuple ts _ _] (.Tuple [a0, b0, d0] _ _) _ => (fnC C && par3C C [i1, i2, j] ts [a0, b0, d0] && hidC C lo mx) && (chkE C e1 a0 && chkE C e2 b0) && matC C v ia ib d0
    | _ => false)
  | .mov i j, st => (match st with | .Assign [.Name x p] (.Name y p2) _ => stoC C i x && varC C j y && fnC C && !swF C.sc x p (.Name y p2) | _ => false)
  | .fneq fs i a b r, st => (match st with
    | .For (.Name x _) (.List es p2) [.If (.Compare (.Call (.Name y _) [.Name xa _] [] _) [.NotEq] [.Call (.Name y2 q1) [.Name xb q2] [] q3] _) p [] _] [] _ =>
      (stoC C i x && varC C i x && (varC C a xa && varC C b xb)) && (decide (y = x) && decide (y2 = x) && (glsC C fs es && decide (fs.length ≤ 1000))) &&
        ((notSet (.List es p2) && !behindInMarks .NotEq (.Call (.Name y2 q1) [.Name xb q2] [] q3)) && chkL C r p)
    | _ => false)
  | .fset j f e, st => (match st with | .Assign [.Attribute (.Name x _) nm _] e0 _ => varC C j x && decide (nm = f) && ((decide (f = Str.ofString "text") || decide (f = Str.ofString "at")) && C.cls) && (chkE C e e0 && notCallE e0) | _ => false)
  | .faug j f o e, st => (match st with | .AugAssign (.Attribute (.Name x _) nm _) .Add e0 _ => varC C j x && decide (nm = f) && ((decide (f = Str.ofString "text") || decide (f = Str.ofString "at")) && C.cls) && (chkE C e e0 && isAdd o) | _ => false)
  | .mko j f e, st => (match st with | .Assign [.Name x p] (.Call (.Name y q) [a0] [] r) _ => (stoC C j x && fnC C && !swF C.sc x p (.Call (.Name y q) [a0] [] r)) && (decide (y = Str.ofString "Reader") && glC C.sc y && plainN y) && (decide (C.mid (Str.ofString "__init__") = some f) && isOb f && chkE C e a0) && C.cls | _ => false)
  | .trn s, st => (match st with | .Try body [.ExceptHandler (some (.Name x _)) none (_ :: _) _] [] [] _ => (chkL C s body && glC C.sc x && plainN x) && decide (x ∈ C.xs) && C.top | _ => false)
  | .fz _ s, st => chkS C s st
  | .expr e, st => (match st with | .Expr e0 _ => chkE C e e0 && notCmp e0 | _ => false)
  | .for_ t it b, st => (match st with | .For tg iter body [] _ => chkI C it tg iter && tgC C t tg && notSet iter && chkL C b body | _ => false)
  | .while_ k b, st => (match st with | .While k0 body [] _ => chkE C k k0 && tstE k && chkL C b body | _ => false)
  | .ite k a b, st => (match st with | .If k0 p q _ => chkE C k k0 && tstE k && chkL C a p && chkL C b q | _ => false)
  | .ret e, st => (match st with | .Return (some e0) _ => chkE C e e0 | _ => false)
  | .retn, st => (match st with | .Return none _ => true | _ => false)
  | .pass, st => (match st with | .Pass _ => true | .Expr (.Constant (.str _) _ _) _ => true | _ => false)
  | .brk, st => (match st with | .Break _ => true | _ => false)
  | .cont, st => (match st with | .Continue _ => true | _ => false)
  | .never, _ => true
  | .skip, _ => false
  | .seq _ _, _ => false
def chkL (C : Ck) : S → List Stmt → Bool
  | .skip, sts => (match sts with | [] => true | _ => false)
  | .seq a b, sts => (match sts with | st :: r => chkS C a st && chkL C b r | _ => false)
  | _, _ => false
end
section
variable {c : FT} {k : Nat}
theorem sM : ∀ (es : E) (C : Ck) (X : Cx) (es0 : List Expr), Ok c k C X → chkA C es es0 = true → PA X es0 (tM c es)
  | .nil, C, X, es0, ok, h => by
    unfold chkA at h
    split at h
    · exact m_nil
    · cases h
  | .cons e es, C, X, es0, ok, h => by
    unfold chkA at h
    split at h
    · obtain ⟨h1, h2⟩ := and2 h
      exact m_cons (chk_star h1 _ _) (sE e C X _ ok h1) (sM es C X _ ok h2)
    · cases h
  | .var _, _, _, _, _, h => by unfold chkA at h; cases h
  | .non, _, _, _, _, h => by unfold chkA at h; cases h
  | .lset _, _, _, _, _, h => by unfold chkA at h; cases h
  | .ten _, _, _, _, _, h => by unfold chkA at h; cases h
  | .sst _, _, _, _, _, h => by unfold chkA at h; cases h
  | .d1 _ _, _, _, _, _, h => by unfold chkA at h; cases h
  | .vsum _, _, _, _, _, h => by unfold chkA at h; cases h
  | .kys _, _, _, _, _, h => by unfold chkA at h; cases h
  | .dc0, _, _, _, _, h => by unfold chkA at h; cases h
  | .cme _, _, _, _, _, h => by unfold chkA at h; cases h
  | .cmn _, _, _, _, _, h => by unfold chkA at h; cases h
  | .bl _, _, _, _, _, h => by unfold chkA at h; cases h
  | .int _, _, _, _, _, h => by unfold chkA at h; cases h
  | .str _, _, _, _, _, h => by unfold chkA at h; cases h
  | .op _ _ _, _, _, _, _, h => by unfold chkA at h; cases h
  | .neg _, _, _, _, _, h => by unfold chkA at h; cases h
  | .not _, _, _, _, _, h => by unfold chkA at h; cases h
  | .and _ _, _, _, _, _, h => by unfold chkA at h; cases h
  | .or _ _, _, _, _, _, h => by unfold chkA at h; cases h
  | .ife _ _ _, _, _, _, _, h => by unfold chkA at h; cases h
  | .isn _, _, _, _, _, h => by unfold chkA at h; cases h
  | .isnt _, _, _, _, _, h => by unfold chkA at h; cases h
  | .cmp _ _ _, _, _, _, _, h => by unfold chkA at h; cases h
  | .chain _ _ _ _ _, _, _, _, _, h => by unfold chkA at h; cases h
  | .tup _, _, _, _, _, h => by unfold chkA at h; cases h
  | .lst _, _, _, _, _, h => by unfold chkA at h; cases h
  | .idx _ _, _, _, _, _, h => by unfold chkA at h; cases h
  | .slice _ _ _, _, _, _, _, h => by unfold chkA at h; cases h
  | .rev _, _, _, _, _, h => by unfold chkA at h; cases h
  | .comp _ _ _ _ _, _, _, _, _, h => by unfold chkA at h; cases h
  | .call _ _, _, _, _, _, h => by unfold chkA at h; cases h
  | .pop _, _, _, _, _, h => by unfold chkA at h; cases h
  | .ln _ _, _, _, _, _, h => by unfold chkA at h; cases h
  | .callr _ _ _, _, _, _, _, h => by unfold chkA at h; cases h
  | .isi _ _, _, _, _, _, h => by unfold chkA at h; cases h
  | .isi2 _ _ _, _, _, _, _, h => by unfold chkA at h; cases h
  | .blt1 _ _, _, _, _, _, h => by unfold chkA at h; cases h
  | .blt2 _ _ _, _, _, _, _, h => by unfold chkA at h; cases h
  | .lrng _, _, _, _, _, h => by unfold chkA at h; cases h
  | .trg _, _, _, _, _, h => by unfold chkA at h; cases h
  | .meth _ _ _, _, _, _, _, h => by unfold chkA at h; cases h
  | .seq _, _, _, _, _, h => by unfold chkA at h; cases h
  | .rng1 _, _, _, _, _, h => by unfold chkA at h; cases h
  | .rng2 _ _, _, _, _, _, h => by unfold chkA at h; cases h
  | .enum _, _, _, _, _, h => by unfold chkA at h; cases h
  | .zip _ _, _, _, _, _, h => by unfold chkA at h; cases h
  | .dx _ _ _ _, _, _, _, _, h => by unfold chkA at h; cases h
  | .xt _ _ _ _, _, _, _, _, h => by unfold chkA at h; cases h
  | .comp2 _ _ _ _ _ _ _ _ _, _, _, _, _, h => by unfold chkA at h; cases h
  | .fz _ _, _, _, _, _, h => by unfold chkA at h; cases h
theorem fold_no {iter : Expr} (h : notSet iter = true) (env : Env) (x : Value) : foldedSetIterable iter env x = pure x := by
  cases iter <;> first | rfl | cases h
theorem Ok.stoL {C : Ck} {X : Cx} (ok : Ok c k C X) {x : Str} {i : Nat} (h : stoC C i x = true) : X.N.Nodup ∧ X.N[i]? = some x ∧ Loc X.env.scope x ∧ (X.fn x = true ∨ X.env.scope.names.lookup x = some .local) := by
  unfold stoC at h
  rw [Bool.and_eq_true] at h
  have h1 : X.N[i]? = some x := by rw [ok.N]; exact of_decide_eq_true h.1
  have nd : X.N.Nodup := by rw [ok.N]; exact ok.nd
  have h2 := h.2
  split at h2
  · next e => exact ⟨nd, h1, .inl (by rw [ok.sc]; exact e), .inr (by rw [ok.sc]; exact e)⟩
  · next e => exact ⟨nd, h1, .inr (by rw [ok.sc]; exact e), .inl (by rw [ok.fnb]; exact h2)⟩
  · cases h2
theorem augSt_no {i0 : Expr} (h : notSl i0 = true) (ov iv new : Value) : augStore i0 ov iv new = (do holding [new, ov, iv] (setItem ov iv new); release [new, ov, iv] []; pure .next) := by
  cases i0 <;> first | rfl | cases h
theorem asg_no {o i0 : Expr} {pos : Pos} {env : Env} (h : notSl i0 = true) (v : Value) : assign (.Subscript o i0 pos) env v = (do
      let ov ← holding [v] (eval o env)
      let iv ← holding [v, ov] (eval i0 env)
      standAt pos
      holding [v, ov, iv] (setItem ov iv v)
      release [v, ov, iv] []) := by
  cases i0 <;> first | rfl | cases h
theorem hidC_ok {C : Ck} {X : Cx} {lo mx : Nat} (ok : Ok c k C X) (h : hidC C lo mx = true) : Hid X lo mx := by
  obtain ⟨h1, h2⟩ := and2 h
  refine ⟨by rw [ok.N]; exact of_decide_eq_true h1, fun k hk x hx hv => ?_⟩
  have q := List.all_eq_true.mp h2 k (List.mem_range.mpr hk)
  rw [ok.N] at hx
  rw [hx] at q
  have q : (!visC C.sc x) = true := q
  unfold visC at q
  rw [ok.sc] at hv
  rcases hv with e | e | e <;> rw [e] at q <;> cases q
theorem s_mat {C : Ck} {X : Cx} {v ia ib : Nat} {e0 : Expr} (ok : Ok c k C X) (h : matC C v ia ib e0 = true) : PE X e0 (tMat c v ia ib) := by
  unfold matC at h
  split at h
  · next el0 tg iter scope pos =>
    obtain ⟨h0, h4, h5⟩ := and3 h
    obtain ⟨h1, h2, h3⟩ := and3 h0
    have nd : X.N.Nodup := by rw [ok.N]; exact ok.nd
    have hb : BlkOk X.N X.env.scope scope (ownC C [v]) := by rw [ok.N, ok.sc]; exact blkOk_by h1
    exact pe_lc (X := X) (pos := pos) ok.calm nd (sI _ C X _ _ ok h4) hb (fun s H a cl fp => (ok.blk (scope := scope) s H a cl fp).tg h2) (fun s H a cl fp => pts_nil) (fun s H a cl fp => sE _ _ _ _ (ok.blk (scope := scope) s H a cl fp) h5) (fold_no h3 _)
  · cases h
theorem mat_star {C : Ck} {v ia ib : Nat} {e0 : Expr} (h : matC C v ia ib e0 = true) (r : List Expr) (env : Env) : starEach (e0 :: r) env = (false, eval e0 env) :: starEach r env := by
  unfold matC at h
  split at h
  · rfl
  · cases h
theorem par3C_is {C : Ck} {i j l : Nat} {ts : List Expr} {a b d : Expr} (h : par3C C [i, j, l] ts [a, b, d] = true) : ∃ x px y py z pz, ts = [.Name x px, .Name y py, .Name z pz] ∧
    ((decide (C.N[i]? = some x) && decide (C.N[j]? = some y) && decide (C.N[l]? = some z)) && (decide (i ≠ j) && decide (i ≠ l) && decide (j ≠ l)) && (decide (x ≠ y) && decide (x ≠ z) && decide (y ≠ z)) &&
      (decide (C.sc.names.lookup x = some .local) && decide (C.sc.names.lookup y = some .local) && decide (C.sc.names.lookup z = some .local)) && (decide (py.line = px.line) && decide (pz.line = px.line)) &&
      !([a, b, d].all (foldedForSure 8)) && !([a, b, d].all (constantsAlone 8))) = true := by
  match ts, h with
  | [.Name x px, .Name y py, .Name z pz], h => exact ⟨x, px, y, py, z, pz, rfl, h⟩
theorem plain_ix {i0 : Expr} (h : notSl i0 = true) : PlainIx i0 := by cases i0 <;> first | exact fun _ _ => rfl | cases h
theorem fld_ok {C : Ck} {X : Cx} (ok : Ok c k C X) {f : Str} (h : ((decide (f = Str.ofString "text") || decide (f = Str.ofString "at")) && C.cls) = true) : Cls X.K CA.a ∧ NoAttr X.K CA.a f := by
  obtain ⟨h, hC⟩ := and2 h
  obtain ⟨k1, k2, k3, _⟩ := ok.cl hC
  rw [Bool.or_eq_true] at h
  rcases h with h | h
  · rw [of_decide_eq_true h]; exact ⟨k1, k2⟩
  · rw [of_decide_eq_true h]; exact ⟨k1, k3⟩
theorem Ok.tr' {C : Ck} {X : Cx} (o : Ok c k C X) (pn : List (Addr × Obj)) (xe : Value → Shared → Prop) : Ok c k C (X.tr pn xe) :=
  ⟨o.calm, o.N, o.sc, o.nd, o.room, o.rm, o.fnb, o.cst, o.fn, o.bl, o.xs, o.tp, o.mt, o.cl⟩
theorem ex_fneq {c : FT} {fs : List Nat} {i a b : Nat} {r : S} {ρ : Rho} : ex c (.fneq fs i a b r) ρ = forN (turnN c i a b r) fs ρ := by
  conv => lhs; unfold ex
  congr 1
section
variable {c : FT} {k : Nat}
theorem glsC_ok {C : Ck} {X : Cx} (ok : Ok c k C X) : ∀ {fs : List Nat} {es : List Expr}, glsC C fs es = true → ∃ fas, Gls X es fas ∧ fas.length = fs.length ∧
    ∀ (j f : Nat) (fa : Addr), fs[j]? = some f → fas[j]? = some fa → ∃ fd ps, PySem.W.keepIn X.K (.ref fa) = true ∧ Binds X.K fd ps [] ∧ FnOk X.prog X.w X.K X.mg X.base CX0 k fa fd ps (spF c f false)
  | [], [], _ => ⟨[], .nil, rfl, fun _ _ _ h => nomatch h⟩
  | f :: fs, .Name x p :: es, h => by
    unfold glsC at h
    obtain ⟨h0, h4⟩ := and2 h
    obtain ⟨h1, h2, h3⟩ := and3 h0
    obtain ⟨fa, fd, ps, m, kp, B, F⟩ := ok.fn _ _ _ (of_decide_eq_true h3)
    obtain ⟨fas, g, l, q⟩ := glsC_ok ok h4
    refine ⟨fa :: fas, .cons (ok.gl h1) m (plain_dbg h2).1 g, by rw [List.length_cons, List.length_cons, l], fun j f2 fa2 e1 e2 => ?_⟩
    cases j with
    | zero => cases e1; cases e2; exact ⟨fd, ps, kp, B, F⟩
    | succ j => exact q j f2 fa2 e1 e2
theorem fneq_ok {C : Ck} {X : Cx} (ok : Ok c k C X) (hp : PassesOwn (model X.prog X.w) X.A X.env X.xe) {fs : List Nat} {es : List Expr} {i a b : Nat} {r : S} {x xa xb : Str} {p : List Stmt} {px p2 q0 q1 q2 q3 q4 q5 q6 q7 pos : Pos}
    (h1 : stoC C i x = true) (h2 : varC C i x = true) (h3 : varC C a xa = true) (h4 : varC C b xb = true) (h5 : glsC C fs es = true) (h6 : fs.length ≤ 1000) (h7 : notSet (.List es p2) = true)
    (h8 : behindInMarks .NotEq (.Call (.Name x q3) [.Name xb q4] [] q5) = false) (hr : PSs X p (tS c r)) :
    PS X (.For (.Name x px) (.List es p2) [.If (.Compare (.Call (.Name x q0) [.Name xa q1] [] q2) [.NotEq] [.Call (.Name x q3) [.Name xb q4] [] q5] q6) p [] q7] [] pos) (fun D σ H => ∃ G ρ o ρ', Rel G H σ ρ ∧ forN (turnN c i a b r) fs ρ = some (o, ρ') ∧ fin D G H σ ρ o ρ') := by
  obtain ⟨fas, g, l, q⟩ := glsC_ok ok h5
  have v := h2
  unfold varC at v
  rw [Bool.and_eq_true, Bool.and_eq_true] at v
  have hN : X.N[i]? = some x := by rw [ok.N]; exact of_decide_eq_true v.1.1
  have hv := ok.vis v.1.2
  refine s_fneq hp ok.calm g l (by omega) (ok.sto h1) (fun j f fa e1 e2 => ?_) (fun y => fold_no h7 _ _)
  obtain ⟨fd, ps, kp, B, F⟩ := q j f fa e1 e2
  have one : ∀ {n : Nat} {y : Str} {qq : Pos}, varC C n y = true → PA X [.Name y qq] (tA c (.cons (.var n) .nil)) := fun {n y qq} h => a_cons rfl (s_var (ok.var h)) a_nil
  exact pss_one (s_iteL (f := f) (t_cmpL (o := .ne) ok.room h8 (s_callL F ok.room hN hv kp B (one h3) (plain_dbg v.2).1 (plain_dbg v.2).2 rfl rfl) (s_callL F ok.room hN hv kp B (one h4) (plain_dbg v.2).1 (plain_dbg v.2).2 rfl rfl)) hr s_nil)
end
mutual
theorem sS : ∀ (s : S) (C : Ck) (X : Cx) (st : Stmt), Ok c k C X → PassesOwn (model X.prog X.w) X.A X.env X.xe → chkS C s st = true → PS X st (tS c s)
  | .set i e, C, X, st, ok, hp, h => by
    unfold chkS at h
    split at h
    · next x p e0 pos =>
      obtain ⟨h0, h3, h4⟩ := and3 h
      obtain ⟨h1, h2⟩ := and2 h0
      obtain ⟨nd, hi, hx, hf⟩ := ok.stoL h1
      have hk : X.env.scope.kind = .function := by rw [ok.sc]; exact of_decide_eq_true h3
      by_cases hs : swF C.sc x p e0 = false
      · exact s_set (ps_set nd hi hx (sE e C X _ ok h2) (sw_no hk (by rw [ok.sc]; exact hs)) hf)
      · have hs1 : swF C.sc x p e0 = true := by cases q : swF C.sc x p e0 with | true => rfl | false => exact absurd q hs
        rw [hs1] at h4
        have h4 : isCompE e = true := h4
        cases e with
        | comp el it t cond vs =>
          unfold chkE at h2
          split at h2
          · next el0 tg iter ifs scope cp =>
            obtain ⟨h0, h6, h7⟩ := and3 h2
            obtain ⟨h0, h4, h5⟩ := and3 h0
            obtain ⟨h8, h9, h10⟩ := and3 h0
            have eo : (ownC C vs).map (·.2) = vs := by
              unfold ownC
              rw [List.map_map]
              exact List.map_id vs
            have hb : BlkOk X.N X.env.scope scope (ownC C vs) := by rw [ok.N, ok.sc]; exact blkOk_by h8
            have hs1 : ((C.sc.names.lookup x == some .local && p.line == cp.line) && !(scope.names.any fun (n, k) => n == x && (k == .local || k == .cell))) = true := hs1
            obtain ⟨g0, g3⟩ := and2 hs1
            obtain ⟨g1, g2⟩ := and2 g0
            have hyl : X.env.scope.names.lookup x = some .local := by rw [ok.sc]; exact beq_iff_eq.mp g1
            have go := ps_setLc (X := X) (pos := cp) (spos := pos) (py := p) ok.calm nd hi hyl (sw_true hk hyl g2 (by simpa using g3)) (sI it C X _ _ ok h5) hb (fun s H a cl fp => (ok.blk (scope := scope) s H a cl fp).tg h9)
              (tt := tK c cond) (ifs := ifs) (fun s H a cl fp => ?_) (fun s H a cl fp => sD (sE el _ _ _ (ok.blk (scope := scope) s H a cl fp) h6)) (fun x => ?_)
            · rw [eo] at go
              exact s_setLc (fun j hj => of_decide_eq_true (List.all_eq_true.mp h10 j hj)) go
            · split at h7
              · exact k_none h7
              · obtain ⟨h8, h9, h10⟩ := and3 h7
                exact k_some (by simpa using h8) (sT cond _ _ _ (ok.blk (scope := scope) s H a cl fp) h10 h9)
              · cases h7
            · cases iter <;> first | rfl | cases h4
          · cases h2
        | comp2 el it t cond vs it2 t2 cond2 vs2 =>
          unfold chkE at h2
          split at h2
          · next el0 tg iter ifs tg2 iter2 ifs2 scope cp =>
            obtain ⟨hA, hB⟩ := and2 h2
            obtain ⟨h0, h6, h7⟩ := and3 hA
            obtain ⟨h0, h4, h5⟩ := and3 h0
            obtain ⟨h8, h9, h10⟩ := and3 h0
            obtain ⟨g0, g5, g6⟩ := and3 hB
            obtain ⟨g0, g3, g4⟩ := and3 g0
            obtain ⟨f1, f2⟩ := and2 g0
            have eo : (ownC C vs).map (·.2) = vs := by
              unfold ownC
              rw [List.map_map]
              exact List.map_id vs
            have hb : BlkOk X.N X.env.scope scope (ownC C vs) := by rw [ok.N, ok.sc]; exact blkOk_by h8
            have hs1 : ((C.sc.names.lookup x == some .local && p.line == cp.line) && !(scope.names.any fun (n, k) => n == x && (k == .local || k == .cell))) = true := hs1
            obtain ⟨k0, k3⟩ := and2 hs1
            obtain ⟨k1, k2⟩ := and2 k0
            have hyl : X.env.scope.names.lookup x = some .local := by rw [ok.sc]; exact beq_iff_eq.mp k1
            have go := ps_setLc2 (X := X) (pos := cp) (spos := pos) (py := p) (vs1 := vs2) ok.calm nd hi hyl (sw_true hk hyl k2 (by simpa using k3)) (sI it C X _ _ ok h5) hb (by rw [eo]; exact fun j hj => of_decide_eq_true (List.all_eq_true.mp f2 j hj)) (fun s H a cl fp => (ok.blk (scope := scope) s H a cl fp).tg h9)
              (tt := tK c cond) (ifs := ifs) (fun s H a cl fp => ?_) (fun s H a cl fp => sI it2 _ _ _ _ (ok.blk (scope := scope) s H a cl fp) g5) (fun s H a cl fp => (ok.blk (scope := scope) s H a cl fp).tg f1)
              (tt1 := tK c cond2) (ifs1 := ifs2) (fun s H a cl fp => ?_) (fun s H a cl fp => sD (sE el _ _ _ (ok.blk (scope := scope) s H a cl fp) h6)) (fun x => ?_) (fun env x => ?_)
            · rw [eo] at go
              exact s_setLc2 (fun j hj => of_decide_eq_true (List.all_eq_true.mp h10 j hj)) (fun j hj => of_decide_eq_true (List.all_eq_true.mp g3 j hj)) (fun j hj => of_decide_eq_true (List.all_eq_true.mp f2 j hj)) go
            · split at h7
              · exact k_none h7
              · obtain ⟨h8, h9, h10⟩ := and3 h7
                exact k_some (by simpa using h8) (sT cond _ _ _ (ok.blk (scope := scope) s H a cl fp) h10 h9)
              · cases h7
            · split at g6
              · exact k_none g6
              · obtain ⟨h8, h9, h10⟩ := and3 g6
                exact k_some (by simpa using h8) (sT cond2 _ _ _ (ok.blk (scope := scope) s H a cl fp) h10 h9)
              · cases g6
            · cases iter <;> first | rfl | cases h4
            · cases iter2 <;> first | rfl | cases g4
          · cases h2
        | _ => cases h4
    · cases h
  | .par is es, C, X, st, ok, hp, h => by
    unfold chkS at h
    split at h
    · next ts kt pt vs k2 p2 pos =>
      obtain ⟨h1, h2, h3⟩ := and3 h
      have hk : X.env.scope.kind = .function := by rw [ok.sc]; exact of_decide_eq_true h2
      have nd : X.N.Nodup := by rw [ok.N]; exact ok.nd
      have hM := sM es C X _ ok h1
      rw [Bool.or_eq_true, Bool.or_eq_true] at h3
      rcases h3 with (h3 | h3) | h3
      · unfold par2C at h3
        split at h3
        · next i j x px y py a b =>
          obtain ⟨h3, g8, g9⟩ := and3 h3
          obtain ⟨h3, g6, g7⟩ := and3 h3
          obtain ⟨h3, g4, g5⟩ := and3 h3
          obtain ⟨g1, g2, g3⟩ := and3 h3
          have a1 : starry a = false ∧ starry b = false := by
            cases es with
            | cons e1 es =>
              unfold chkA at h1
              obtain ⟨q1, q2⟩ := and2 h1
              cases es with
              | cons e2 es =>
                unfold chkA at q2
                obtain ⟨q3, q4⟩ := and2 q2
                exact ⟨by cases a <;> first | rfl | (rw [not_star] at q1; cases q1), by cases b <;> first | rfl | (rw [not_star] at q3; cases q3)⟩
              | nil => unfold chkA at q2; cases q2
              | _ => unfold chkA at q2; cases q2
            | _ => unfold chkA at h1; cases h1
          have lx : X.env.scope.names.lookup x = some .local := by rw [ok.sc]; exact of_decide_eq_true g5
          have ly : X.env.scope.names.lookup y = some .local := by rw [ok.sc]; exact of_decide_eq_true g6
          exact s_par2 (ps_par ok.calm nd (by rw [ok.N]; exact of_decide_eq_true g1) (by rw [ok.N]; exact of_decide_eq_true g2) (of_decide_eq_true g3) lx ly hM
            (st_par2 hk lx ly (of_decide_eq_true g7) (of_decide_eq_true g4) a1.1 a1.2 (nott g8) (nott g9)) sw_tup)
        · cases h3
      · unfold par3C at h3
        split at h3
        · next i j l x px y py z pz a b d =>
          obtain ⟨h3, g8, g9⟩ := and3 h3
          obtain ⟨h3, g6, g7⟩ := and3 h3
          obtain ⟨h3, g4, g5⟩ := and3 h3
          obtain ⟨n1, n2, n3⟩ := and3 h3
          obtain ⟨d1, d2, d3⟩ := and3 g4
          obtain ⟨e1, e2, e3⟩ := and3 g5
          obtain ⟨l1, l2, l3⟩ := and3 g6
          obtain ⟨m1, m2⟩ := and2 g7
          have a1 : starry a = false ∧ starry b = false ∧ starry d = false := by
            cases es with
            | cons e1 es =>
              unfold chkA at h1
              obtain ⟨q1, q2⟩ := and2 h1
              cases es with
              | cons e2 es =>
                unfold chkA at q2
                obtain ⟨q3, q4⟩ := and2 q2
                cases es with
                | cons e3 es =>
                  unfold chkA at q4
                  obtain ⟨q5, q6⟩ := and2 q4
                  exact ⟨by cases a <;> first | rfl | (rw [not_star] at q1; cases q1), by cases b <;> first | rfl | (rw [not_star] at q3; cases q3), by cases d <;> first | rfl | (rw [not_star] at q5; cases q5)⟩
                | _ => unfold chkA at q4; cases q4
              | _ => unfold chkA at q2; cases q2
            | _ => unfold chkA at h1; cases h1
          have lx : X.env.scope.names.lookup x = some .local := by rw [ok.sc]; exact of_decide_eq_true l1
          have ly : X.env.scope.names.lookup y = some .local := by rw [ok.sc]; exact of_decide_eq_true l2
          have lz : X.env.scope.names.lookup z = some .local := by rw [ok.sc]; exact of_decide_eq_true l3
          exact s_par3 (ps_par3 ok.calm nd (by rw [ok.N]; exact of_decide_eq_true n1) (by rw [ok.N]; exact of_decide_eq_true n2) (by rw [ok.N]; exact of_decide_eq_true n3) (of_decide_eq_true d1) (of_decide_eq_true d2) (of_decide_eq_true d3) lx ly lz hM
            (st_par3 hk lx ly lz (of_decide_eq_true m1) (of_decide_eq_true m2) (of_decide_eq_true e1) (of_decide_eq_true e2) (of_decide_eq_true e3) a1.1 a1.2.1 a1.2.2 (nott g8) (nott g9)) sw_tup)
        · cases h3
      · obtain ⟨h4, h5, h6⟩ := and3 h3
        obtain ⟨n1, n2, n3⟩ := ok.names h5
        exact s_parT (Nat.le_of_lt (okL_le h6)) (ps_asg (pe_tup hM) (pg_tup ok.calm n1 n2 n3) sw_tup (st_none (by rw [ok.sc]; exact h4)) rfl)
    · cases h
  | .unp is e, C, X, st, ok, hp, h => by
    unfold chkS at h
    split at h
    · next ts kt pt e0 pos =>
      obtain ⟨h1, h2, h3⟩ := and3 h
      exact s_unp (ps_asg (sD (sE e C X _ ok h3)) (ok.tg (t := .many is) (e := .Tuple ts kt pt) h1) sw_tup (st_tup h2) rfl)
    · cases h
  | .seti j ix e, C, X, st, ok, hp, h => by
    unfold chkS at h
    split at h
    · obtain ⟨h0, h3, h4⟩ := and3 h
      obtain ⟨h1, h2⟩ := and2 h0
      exact s_seti (ps_asg (sD (sE e C X _ ok h4)) (pg_sub (ok.var h1) (sD (sE ix C X _ ok h3)) set_list (fun v => asg_no h2 v)) sw_sub st_sub rfl)
    · cases h
  | .dput j ke e, C, X, st, ok, hp, h => by
    unfold chkS at h
    split at h
    · next x px i0 pi e0 pos =>
      obtain ⟨h0, h3, h4⟩ := and3 h
      obtain ⟨h1, h2⟩ := and2 h0
      exact s_dput (ps_dputX (by have := ok.room.un; omega) (ok.var h1) (sD (sE ke C X _ ok h3)) (sD (sE e C X _ ok h4)) sw_subS)
    · cases h
  | .fz js s, C, X, st, ok, hp, h => by
    unfold chkS at h
    exact s_fzS (sS s C X _ ok hp h)
  | .dkp j ke e, C, X, st, ok, hp, h => by
    unfold chkS at h
    split at h
    · next x px i0 pi e0 pos =>
      obtain ⟨h0, h3, h4⟩ := and3 h
      obtain ⟨h1, h2⟩ := and2 h0
      exact s_kput (ps_dput (by have := ok.room.un; omega) (ok.var h1) (sD (sE ke C X _ ok h3)) (sD (sE e C X _ ok h4)) sw_subS)
    · cases h
  | .mset j a b e, C, X, st, ok, hp, h => by
    unfold chkS at h
    split at h
    · obtain ⟨h0, h45, h6⟩ := and3 h
      obtain ⟨h1, h2, h3⟩ := and3 h0
      obtain ⟨h4, h5⟩ := and2 h45
      exact s_mset (ps_asg (sD (sE e C X _ ok h6)) (pg_sub (pe_ix ix_list (ok.var h1) (sD (sE a C X _ ok h4)) (plain_ix h2)) (sD (sE b C X _ ok h5)) set_list (fun v => asg_no h3 v)) sw_sub st_sub rfl)
    · cases h
  | .maug j a b o e, C, X, st, ok, hp, h => by
    unfold chkS at h
    split at h
    · obtain ⟨h0, h45, h6⟩ := and3 h
      obtain ⟨h1, h2, h3⟩ := and3 h0
      obtain ⟨h4, h5⟩ := and2 h45
      obtain ⟨h6, h7, h8⟩ := and3 h6
      have eq := opC_is h4
      subst eq
      exact s_maug (ps_augS (pe_ix ix_list (ok.var h1) (sD (sE a C X _ ok h6)) (plain_ix h2)) (sD (sE b C X _ ok h7)) get_list (sD (sE e C X _ ok h8)) (ip_ok o h5) set_list (fun ov iv new => augSt_no h3 ov iv new))
    · cases h
  | .mnew j lo mx v ia ib, C, X, st, ok, hp, h => by
    unfold chkS at h
    split at h
    · next x p e0 pos =>
      obtain ⟨h0, h4, h5⟩ := and3 h
      obtain ⟨h1, h2, h3⟩ := and3 h0
      obtain ⟨nd, hi, hx, hf⟩ := ok.stoL h1
      have hk : X.env.scope.kind = .function := by rw [ok.sc]; exact of_decide_eq_true h2
      unfold matC at h4
      split at h4
      · next el0 tg iter scope cp =>
        obtain ⟨h0, h7, h8⟩ := and3 h4
        obtain ⟨h9, h10, h11⟩ := and3 h0
        have hb : BlkOk X.N X.env.scope scope (ownC C [v]) := by rw [ok.N, ok.sc]; exact blkOk_by h9
        have h5 : ((C.sc.names.lookup x == some .local && p.line == cp.line) && !(scope.names.any fun (n, k) => n == x && (k == .local || k == .cell))) = true := h5
        obtain ⟨g0, g3⟩ := and2 h5
        obtain ⟨g1, g2⟩ := and2 g0
        have hyl : X.env.scope.names.lookup x = some .local := by rw [ok.sc]; exact beq_iff_eq.mp g1
        exact s_mnew (hidC_ok ok h3) (ps_setLc (X := X) (pos := cp) (spos := pos) (py := p) ok.calm nd hi hyl (sw_true hk hyl g2 (by simpa using g3)) (sI _ C X _ _ ok h7) hb (fun s H a cl fp => (ok.blk (scope := scope) s H a cl fp).tg h10)
          (fun s H a cl fp => pts_nil) (fun s H a cl fp => sE _ _ _ _ (ok.blk (scope := scope) s H a cl fp) h8) (fold_no h11 _))
      · cases h4
    · cases h
  | .parm i1 e1 i2 e2 j lo mx v ia ib, C, X, st, ok, hp, h => by
    unfold chkS at h
    split at h
    · next ts kt pt a0 b0 d0 k2 p2 pos =>
      obtain ⟨h0, h45, h6⟩ := and3 h
      obtain ⟨h1, h3, h2⟩ := and3 h0
      obtain ⟨h4, h5⟩ := and2 h45
      have hk : X.env.scope.kind = .function := by rw [ok.sc]; exact of_decide_eq_true h1
      have nd : X.N.Nodup := by rw [ok.N]; exact ok.nd
      have hM : PA X [a0, b0, d0] (tCons (tE c e1) (tCons (tE c e2) (tCons (tMat c v ia ib) tNil))) := pa_cons (sE e1 C X _ ok h4) (pa_cons (sE e2 C X _ ok h5) (pa_cons (s_mat ok h6) pa_nil (mat_star h6 _ _)) (chk_star h5 _ _)) (chk_star h4 _ _)
      obtain ⟨x, px, y, py, z, pz, rfl, h3⟩ := par3C_is h3
      obtain ⟨h3, g8, g9⟩ := and3 h3
      obtain ⟨h3, g6, g7⟩ := and3 h3
      obtain ⟨h3, g4, g5⟩ := and3 h3
      obtain ⟨n1, n2, n3⟩ := and3 h3
      obtain ⟨d1, d2, d3⟩ := and3 g4
      obtain ⟨e1, e2, e3⟩ := and3 g5
      obtain ⟨l1, l2, l3⟩ := and3 g6
      obtain ⟨m1, m2⟩ := and2 g7
      have a1 : starry a0 = false := by cases a0 <;> first | rfl | (rw [not_star] at h4; cases h4)
      have a2 : starry b0 = false := by cases b0 <;> first | rfl | (rw [not_star] at h5; cases h5)
      have a3 : starry d0 = false := by cases d0 <;> first | rfl | cases h6
      have lx : X.env.scope.names.lookup x = some .local := by rw [ok.sc]; exact of_decide_eq_true l1
      have ly : X.env.scope.names.lookup y = some .local := by rw [ok.sc]; exact of_decide_eq_true l2
      have lz : X.env.scope.names.lookup z = some .local := by rw [ok.sc]; exact of_decide_eq_true l3
      exact s_parm (hidC_ok ok h2) (ps_par3 ok.calm nd (by rw [ok.N]; exact of_decide_eq_true n1) (by rw [ok.N]; exact of_decide_eq_true n2) (by rw [ok.N]; exact of_decide_eq_true n3) (of_decide_eq_true d1) (of_decide_eq_true d2) (of_decide_eq_true d3) lx ly lz hM
        (st_par3 hk lx ly lz (of_decide_eq_true m1) (of_decide_eq_true m2) (of_decide_eq_true e1) (of_decide_eq_true e2) (of_decide_eq_true e3) a1 a2 a3 (nott g8) (nott g9)) sw_tup)
    · cases h
  | .fneq fs i a b r, C, X, st, ok, hp, h => by
    unfold chkS at h
    split at h
    · next x px es p2 y q0 xa qa qb y2 q1 xb q2 q3 qc p qd pos =>
      obtain ⟨hA, hB, hC⟩ := and3 h
      obtain ⟨a1, a2, a3⟩ := and3 hA
      obtain ⟨a3, a4⟩ := and2 a3
      obtain ⟨b1, b2, b3⟩ := and3 hB
      obtain ⟨b3, b4⟩ := and2 b3
      obtain ⟨c1, c2⟩ := and2 hC
      obtain ⟨c1, c3⟩ := and2 c1
      have e1 := of_decide_eq_true b1
      have e2 := of_decide_eq_true b2
      subst e1 e2
      exact PS.le (fneq_ok ok hp a1 a2 a3 a4 b3 (of_decide_eq_true b4) c1 (nott c3) (sL r C X p ok hp c2)) fun D σ H ⟨G, ρ, o, ρ', R, e, f⟩ => ⟨G, ρ, o, ρ', R, by rw [← ex_fneq]; exact e, f⟩
    · cases h
  | .fset j f e, C, X, st, ok, hp, h => by
    unfold chkS at h
    split at h
    · next x p2 nm p3 e0 pos =>
      obtain ⟨h0, h3, h4⟩ := and3 h
      obtain ⟨h1, h2⟩ := and2 h0
      obtain ⟨h6, h7⟩ := and2 h4
      have e1 := of_decide_eq_true h2
      subst e1
      refine s_fset (fld_ok ok h3) (ok.var h1) (sE e C X _ ok h6) ?_
      clear h h4 h6
      cases e0 <;> first | rfl | cases h7
    · cases h
  | .faug j f o e, C, X, st, ok, hp, h => by
    unfold chkS at h
    split at h
    · obtain ⟨h0, h3, h4⟩ := and3 h
      obtain ⟨h1, h2⟩ := and2 h0
      obtain ⟨h6, h7⟩ := and2 h4
      have e1 := of_decide_eq_true h2
      subst e1
      clear h h4
      cases o with
      | add => exact s_faug (fld_ok ok h3) (ok.var h1) (sE e C X _ ok h6)
      | _ => cases h7
    · cases h
  | .mko j f e, C, X, st, ok, hp, h => by
    unfold chkS at h
    split at h
    · next x p y q a0 r pos =>
      obtain ⟨h, hc⟩ := and2 h
      obtain ⟨hA, hB, hC⟩ := and3 h
      obtain ⟨a1, a2, a3⟩ := and3 hA
      obtain ⟨b1, b2, b3⟩ := and3 hB
      obtain ⟨c1, c2, c3⟩ := and3 hC
      have e1 := of_decide_eq_true b1
      subst e1
      obtain ⟨fa, fd, ps, q2, q3, q4, F⟩ := ok.mt _ _ (of_decide_eq_true c1)
      obtain ⟨nd, hi, hx, hf⟩ := ok.stoL a1
      have hk : X.env.scope.kind = .function := by rw [ok.sc]; exact of_decide_eq_true a2
      obtain ⟨_, _, _, k4, k5, k6⟩ := ok.cl hc
      refine s_mkoX ⟨k4, k5, k6⟩ (ok.gl b2) (sE e C X _ ok c3) (plain_dbg b3).1 (chk_star c3 _ _) c2 F ok.rm q4 q3 (fun he => ps_set nd hi hx he (sw_no hk (by rw [ok.sc]; exact nott a3)) hf)
    · cases h
  | .trn s, C, X, st, ok, hp, h => by
    unfold chkS at h
    split at h
    · obtain ⟨hA, hB, hC⟩ := and3 h
      obtain ⟨a1, a2, a3⟩ := and3 hA
      obtain ⟨v, hv⟩ := ok.xs _ (of_decide_eq_true hB)
      obtain ⟨t1, t2⟩ := ok.tp hC
      refine s_trn (PS.le (ps_try_only (Wout := fun _ _ _ _ => False) (tb := fun _ => tS c s) (ts := fun _ _ _ => fun _ _ _ => False) t1 t2 (c := v) ⟨ok.gl a2, (plain_dbg a3).1, .inl hv⟩ (fun _ _ ⟨_, _, _, _, _, _, _, _, _, _, _, _, _, _, _, _, z⟩ => z.elim) (fun W pn xe tk hp' => sL s C (X.tr pn xe) _ (ok.tr' pn xe) hp' a1) (fun a oe cls d pn _ _ => ⟨fun pins s σ H D I h => h.elim⟩)) fun D σ H h => h)
    · cases h
  | .mov i j, C, X, st, ok, hp, h => by
    unfold chkS at h
    split at h
    · next x p y p2 pos =>
      obtain ⟨h0, h3, h4⟩ := and3 h
      obtain ⟨h1, h2⟩ := and2 h0
      obtain ⟨nd, hi, hx, hf⟩ := ok.stoL h1
      have hk : X.env.scope.kind = .function := by rw [ok.sc]; exact of_decide_eq_true h3
      exact s_mov (ps_set nd hi hx (ok.var h2) (sw_no hk (by rw [ok.sc]; exact nott h4)) hf)
    · cases h
  | .augi j ix o e, C, X, st, ok, hp, h => by
    unfold chkS at h
    split at h
    · obtain ⟨h0, h5, h6⟩ := and3 h
      obtain ⟨h0, h3, h4⟩ := and3 h0
      obtain ⟨h1, h2⟩ := and2 h0
      have eq := opC_is h3
      subst eq
      exact s_augi (ps_augS (ok.var h1) (sD (sE ix C X _ ok h5)) get_list (sD (sE e C X _ ok h6)) (ip_ok o h4) set_list (fun ov iv new => augSt_no h2 ov iv new))
    · cases h
  | .aug i o e, C, X, st, ok, hp, h => by
    unfold chkS at h
    split at h
    · obtain ⟨h0, h3, h4⟩ := and3 h
      obtain ⟨h1, h2⟩ := and2 h0
      have eq := opC_is h2
      subst eq
      obtain ⟨nd, hi, hx, hf⟩ := ok.stoL h1
      exact s_aug (ps_aug nd hi hx (sD (sE e C X _ ok h4)) (ip_ok o h3) hf)
    · cases h
  | .app j e, C, X, st, ok, hp, h => by
    unfold chkS at h
    split at h
    · obtain ⟨h0, h3, h4⟩ := and3 h
      obtain ⟨h1, h2⟩ := and2 h0
      have eq := of_decide_eq_true h2
      subst eq
      exact s_app (ps_expr (pe_bm PySem.F.plainAttrs_list PySem.F.slot_list_append PySem.F.type_list_append mt_append (ok.var h1) (a_one (chk_star h4 _ _) (sD (sE e C X _ ok h4))) rfl (by rw [chk_star h4]; rfl) h3 (chk_star h4 _ _) rfl) rfl)
    · cases h
  | .expr e, C, X, st, ok, hp, h => by
    unfold chkS at h
    split at h
    · obtain ⟨h1, h2⟩ := and2 h
      exact s_expr (sE e C X _ ok h1) (sw_drop h2)
    · cases h
  | .for_ t it b, C, X, st, ok, hp, h => by
    unfold chkS at h
    split at h
    · obtain ⟨h0, h3, h4⟩ := and3 h
      obtain ⟨h1, h2⟩ := and2 h0
      exact s_for hp ok.calm (sI it C X _ _ ok h1) (ok.tg h2) (sL b C X _ ok hp h4) (fun x => fold_no h3 _ _)
    · cases h
  | .while_ k0 b, C, X, st, ok, hp, h => by
    unfold chkS at h
    split at h
    · obtain ⟨h1, h2, h3⟩ := and3 h
      exact s_while hp (sT k0 C X _ ok h1 h2) (sL b C X _ ok hp h3)
    · cases h
  | .ite k0 a b, C, X, st, ok, hp, h => by
    unfold chkS at h
    split at h
    · obtain ⟨h0, h3, h4⟩ := and3 h
      obtain ⟨h1, h2⟩ := and2 h0
      exact s_ite (sT k0 C X _ ok h1 h2) (sL a C X _ ok hp h3) (sL b C X _ ok hp h4)
    · cases h
  | .ret e, C, X, st, ok, hp, h => by
    unfold chkS at h
    split at h
    · cases q : isVar e with
      | none => exact s_ret (v_else q (sE e C X _ ok h))
      | some j =>
        cases e with
        | var i =>
          unfold chkE at h
          split at h
          · exact s_ret (v_var (ok.var h))
          · cases h
        | _ => cases q
    · cases h
  | .retn, C, X, st, ok, hp, h => by
    unfold chkS at h
    split at h
    · exact s_retn
    · cases h
  | .pass, C, X, st, ok, hp, h => by
    unfold chkS at h
    split at h
    · exact s_pass ps_pass
    · exact s_pass ps_doc
    · cases h
  | .brk, C, X, st, ok, hp, h => by
    unfold chkS at h
    split at h
    · exact s_brk
    · cases h
  | .cont, C, X, st, ok, hp, h => by
    unfold chkS at h
    split at h
    · exact s_cont
    · cases h
  | .never, C, X, st, ok, hp, h => s_never
  | .skip, C, X, st, ok, hp, h => by unfold chkS at h; cases h
  | .seq _ _, C, X, st, ok, hp, h => by unfold chkS at h; cases h
theorem sL : ∀ (s : S) (C : Ck) (X : Cx) (sts : List Stmt), Ok c k C X → PassesOwn (model X.prog X.w) X.A X.env X.xe → chkL C s sts = true → PSs X sts (tS c s)
  | .skip, C, X, sts, ok, hp, h => by
    unfold chkL at h
    split at h
    · exact s_nil
    · cases h
  | .seq a b, C, X, sts, ok, hp, h => by
    unfold chkL at h
    split at h
    · obtain ⟨h1, h2⟩ := and2 h
      exact s_seq (sS a C X _ ok hp h1) (sL b C X _ ok hp h2)
    · cases h
  | .set _ _, _, _, _, _, _, h => by unfold chkL at h; cases h
  | .par _ _, _, _, _, _, _, h => by unfold chkL at h; cases h
  | .unp _ _, _, _, _, _, _, h => by unfold chkL at h; cases h
  | .seti _ _ _, _, _, _, _, _, h => by unfold chkL at h; cases h
  | .augi _ _ _ _, _, _, _, _, _, h => by unfold chkL at h; cases h
  | .aug _ _ _, _, _, _, _, _, h => by unfold chkL at h; cases h
  | .app _ _, _, _, _, _, _, h => by unfold chkL at h; cases h
  | .dput _ _ _, _, _, _, _, _, h => by unfold chkL at h; cases h
  | .dkp _ _ _, _, _, _, _, _, h => by unfold chkL at h; cases h
  | .mset _ _ _ _, _, _, _, _, _, h => by unfold chkL at h; cases h
  | .maug _ _ _ _ _, _, _, _, _, _, h => by unfold chkL at h; cases h
  | .mnew _ _ _ _ _ _, _, _, _, _, _, h => by unfold chkL at h; cases h
  | .parm _ _ _ _ _ _ _ _ _ _, _, _, _, _, _, h => by unfold chkL at h; cases h
  | .mov _ _, _, _, _, _, _, h => by unfold chkL at h; cases h
  | .fneq _ _ _ _ _, _, _, _, _, _, h => by unfold chkL at h; cases h
  | .fset _ _ _, _, _, _, _, _, h => by unfold chkL at h; cases h
  | .faug _ _ _ _, _, _, _, _, _, h => by unfold chkL at h; cases h
  | .mko _ _ _, _, _, _, _, _, h => by unfold chkL at h; cases h
  | .trn _, _, _, _, _, _, h => by unfold chkL at h; cases h
  | .fz _ _, _, _, _, _, _, h => by unfold chkL at h; cases h
  | .expr _, _, _, _, _, _, h => by unfold chkL at h; cases h
  | .for_ _ _ _, _, _, _, _, _, h => by unfold chkL at h; cases h
  | .while_ _ _, _, _, _, _, _, h => by unfold chkL at h; cases h
  | .ite _ _ _, _, _, _, _, _, h => by unfold chkL at h; cases h
  | .ret _, _, _, _, _, _, h => by unfold chkL at h; cases h
  | .retn, _, _, _, _, _, h => by unfold chkL at h; cases h
  | .pass, _, _, _, _, _, h => by unfold chkL at h; cases h
  | .brk, _, _, _, _, _, h => by unfold chkL at h; cases h
  | .cont, _, _, _, _, _, h => by unfold chkL at h; cases h
  | .never, _, _, _, _, _, h => by unfold chkL at h; cases h
end
end
end DP

/-! defs and a law's end -/
namespace DP
open PySem PySem.Spec PyProof.Rows L2
variable [CA : ClsA]

def scoC (N P : List Str) (sc : Scope) : Bool := (decide (sc.kind = .function) && !sc.isCoroutine && !sc.isGenerator) && (decide N.Nodup && decide (N.take P.length = P)) && (P.all (fun x => decide (sc.names.lookup x = some .local) || decide (sc.names.lookup x = some .cell)) && sc.names.all fun y => !decide (y.2 = .free))
theorem sco_ok {N P : List Str} {sc : Scope} (h : scoC N P sc = true) : FnScope N P sc := by
  obtain ⟨h1, h2, h3⟩ := and3 h
  obtain ⟨a1, a2, a3⟩ := and3 h1
  obtain ⟨b1, b2⟩ := and2 h2
  obtain ⟨c1, c2⟩ := and2 h3
  refine ⟨of_decide_eq_true a1, nott a2, nott a3, of_decide_eq_true b1, of_decide_eq_true b2, fun x hx => ?_, fun y hy => of_decide_eq_false (nott (List.all_eq_true.mp c2 y hy))⟩
  have z := List.all_eq_true.mp c1 x hx
  rw [Bool.or_eq_true] at z
  rcases z with z | z
  · exact .inl (of_decide_eq_true z)
  · exact .inr (of_decide_eq_true z)
/-- a def: the name it is called by, its own name, its text, its names, its term -/
structure Ent where
  id : Nat
  x : Str
  q : Str
  st : Stmt
  N : List Str
  fn : Fn
abbrev Ent.ps (e : Ent) : List Str := e.N.take e.fn.np
structure Tab where
  es : List Ent
  cst : List (Str × D)
  bl : List Str
  ms : List Ent
  ca : Bool
  xs : List Str
def Tab.all (T : Tab) : List Ent := T.es ++ T.ms
def Tab.fid (T : Tab) (x : Str) : Option (Nat × Bool) := (T.es.find? fun e => e.x == x).map fun e => (e.id, e.fn.io)
def Tab.fn (T : Tab) (f : Nat) : Option Fn := (T.all.find? fun e => e.id == f).map (·.fn)
def Tab.mid (T : Tab) (m : Str) : Option Nat := (T.ms.find? fun e => e.x == m).map (·.id)
def Tab.ck (T : Tab) (e : Ent) : Ck := ⟨e.N, defScope e.st, fun _ => true, fun x => T.cst.lookup x, T.fid, T.bl, T.mid, T.ca, T.xs, true⟩
def Tab.entC (T : Tab) (e : Ent) : Bool := scoC e.N e.ps (defScope e.st) && decide (e.fn.np ≤ e.N.length) && decide (e.N.length = e.fn.nl) && ((!e.fn.io || decide (0 < e.fn.np)) && (decide (e.fn.dl = isDl e.id) && ((!e.fn.dl || e.fn.io) && (!isOb e.id || T.ca)))) && chkL (T.ck e) e.fn.body (defBody e.st)
def Tab.ok (T : Tab) : Bool := (T.all.all T.entC && T.ms.all (fun e => isOb e.id) && T.es.all fun e => !isOb e.id) && decide ((T.all.map (·.id)).Nodup)
structure EntOk (K : PySem.W.Frag) (mg : Str → Option Value) (e : Ent) : Prop where
  ex : ∃ fa fd, mg e.x = some (.ref fa) ∧ Fun K e.q e.q e.st fa fd ∧ Binds K fd e.ps []
def cstD : D → Value → Prop
  | .int i, u => ∃ t, u = .int i t
  | .str x, u => ∃ t, u = .str x t
  | _, _ => False
structure TabOk (T : Tab) (K : PySem.W.Frag) (mg : Str → Option Value) : Prop where
  es : ∀ e ∈ T.es, EntOk K mg e
  cst : ∀ p ∈ T.cst, ∃ u, mg p.1 = some u ∧ cstD p.2 u
  bl : ∀ x ∈ T.bl, mg x = none
  ms : ∀ e ∈ T.ms, ∃ fa fd, Meth K CA.a e.x fa ∧ Fun K e.x e.q e.st fa fd ∧ Binds K fd e.ps []
  ca : T.ca = true → Cls K CA.a ∧ NoAttr K CA.a (Str.ofString "text") ∧ NoAttr K CA.a (Str.ofString "at") ∧ mg (Str.ofString "Reader") = some (.ref CA.a) ∧ PySem.W.makesIn K CA.a = true ∧ PySem.W.keepIn K (.ref CA.a) = true
  xs : ∀ x ∈ T.xs, ∃ v, mg x = some v
section
variable {P : Program} {w : World} {K : PySem.W.Frag} {mg : Str → Option Value} {base : Heap} {T : Tab}
theorem start_at {N : List Str} {vs : List V} {j : Nat} {o : Option V} (h : (L2.start N vs)[j]? = some o) : (∃ v, vs[j]? = some v ∧ o = some v) ∨ (vs.length ≤ j ∧ o = none) := by
  unfold L2.start at h
  by_cases hj : j < vs.length
  · rw [List.getElem?_append_left (by rw [List.length_map]; exact hj), List.getElem?_map, List.getElem?_eq_getElem hj] at h
    exact .inl ⟨vs[j], List.getElem?_eq_getElem hj, (Option.some.inj h).symm⟩
  · rw [List.getElem?_append_right (by rw [List.length_map]; omega)] at h
    exact .inr ⟨by omega, (List.mem_replicate.mp (List.mem_of_getElem? h)).2⟩
theorem start_len {N : List Str} {vs : List V} (h : vs.length ≤ N.length) : (L2.start N vs).length = N.length := by
  unfold L2.start
  rw [List.length_append, List.length_map, List.length_replicate]
  omega
theorem ment_at {ds : List D} {n j : Nat} {sv : SV} (h : (ds.map SV.val ++ List.replicate n SV.un)[j]? = some sv) : (∃ d, ds[j]? = some d ∧ sv = .val d) ∨ (ds.length ≤ j ∧ sv = .un) := by
  by_cases hj : j < ds.length
  · rw [List.getElem?_append_left (by rw [List.length_map]; exact hj), List.getElem?_map, List.getElem?_eq_getElem hj] at h
    exact .inl ⟨ds[j], List.getElem?_eq_getElem hj, (Option.some.inj h).symm⟩
  · rw [List.getElem?_append_right (by rw [List.length_map]; omega)] at h
    exact .inr ⟨by omega, (List.mem_replicate.mp (List.mem_of_getElem? h)).2⟩
/-- at the entry, all parameters read only -/
theorem rel_start {G H : Hp} {N : List Str} {vs : List V} {ds : List D} {n : Nat} (s : Same G H) (r : Drs G vs ds) (hn : vs.length + n = N.length) : Rel G H (L2.start N vs) (ds.map .val ++ List.replicate n .un) ∧ ∀ a, ¬ HotAt (L2.start N vs) (ds.map .val ++ List.replicate n .un) a := by
  have cold : ∀ (j : Nat) (sv : SV), (ds.map SV.val ++ List.replicate n SV.un)[j]? = some sv → hot sv = true → False := fun j sv h1 h2 => by
    rcases ment_at h1 with ⟨d, _, rfl⟩ | ⟨_, rfl⟩ <;> cases h2
  refine ⟨⟨s, ?_, fun j o sv h1 h2 => ?_, fun i j a sv sv' _ h2 h3 => (cold i sv h2 h3).elim, Tie.no fun j l m z => by rcases ment_at z with ⟨d, _, z⟩ | ⟨_, z⟩ <;> cases z⟩, fun a ⟨j, sv, _, h2, h3⟩ => cold j sv h2 h3⟩
  · rw [start_len (by omega), List.length_append, List.length_map, List.length_replicate, ← r.length]
    omega
  · rcases ment_at h2 with ⟨d, k1, rfl⟩ | ⟨_, rfl⟩
    · obtain ⟨v, k2, k3⟩ := r.getD k1
      rcases start_at h1 with ⟨u, k4, rfl⟩ | ⟨k4, _⟩
      · rw [k2] at k4; cases k4; exact .val k3
      · have := (List.getElem?_eq_some_iff.mp k2).1; omega
    · exact .un _
/-- at the entry, the first parameter a list that is changed in place -/
theorem rel_startR {G H : Hp} {N : List Str} {p : Addr} {xs : List V} {row : List D} {vs : List V} {ds : List D} {n : Nat} (s : Same G H) (hp : H p = some (.lst xs)) (gp : G p = none) (rr : Drs G xs row) (r : Drs G vs ds) (hn : vs.length + 1 + n = N.length) :
    Rel G H (L2.start N (.ref p :: vs)) (.row row :: (ds.map .val ++ List.replicate n .un)) ∧ ∀ a, HotAt (L2.start N (.ref p :: vs)) (.row row :: (ds.map .val ++ List.replicate n .un)) a → a = p := by
  have hs : L2.start N (.ref p :: vs) = some (.ref p) :: (vs.map some ++ List.replicate (N.length - (vs.length + 1)) none) := rfl
  have hots : ∀ (j : Nat) (sv : SV), (SV.row row :: (ds.map SV.val ++ List.replicate n SV.un))[j]? = some sv → hot sv = true → j = 0 := fun j sv h1 h2 => by
    cases j with
    | zero => rfl
    | succ j =>
      rw [List.getElem?_cons_succ] at h1
      rcases ment_at h1 with ⟨d, _, rfl⟩ | ⟨_, rfl⟩ <;> cases h2
  refine ⟨⟨s, ?_, fun j o sv h1 h2 => ?_, fun i j a sv sv' _ h2 h3 _ l2 l3 => by rw [hots i sv h2 h3, hots j sv' l2 l3], Tie.no fun j l m z => by
    cases j with
    | zero => cases z
    | succ j =>
      rw [List.getElem?_cons_succ] at z
      rcases ment_at z with ⟨d, _, z⟩ | ⟨_, z⟩ <;> cases z⟩, fun a ⟨j, sv, h1, h2, h3⟩ => ?_⟩
  · rw [start_len (by rw [List.length_cons]; omega), List.length_cons, List.length_append, List.length_map, List.length_replicate, ← r.length]
    omega
  · cases j with
    | zero =>
      rw [hs] at h1
      cases h1
      cases h2
      exact .row hp gp rr
    | succ j =>
      rw [List.getElem?_cons_succ] at h2
      rw [hs, List.getElem?_cons_succ] at h1
      rcases ment_at h2 with ⟨d, k1, rfl⟩ | ⟨_, rfl⟩
      · obtain ⟨v, k2, k3⟩ := r.getD k1
        have hj := (List.getElem?_eq_some_iff.mp k2).1
        rw [List.getElem?_append_left (by rw [List.length_map]; exact hj), List.getElem?_map, k2] at h1
        cases h1
        exact .val k3
      · exact .un _
  · have e := hots j sv h2 h3
    subst e
    rw [hs] at h1
    cases h1
    rfl
theorem Drs.cons_inv {G : Hp} {v : V} {vs : List V} {ds : List D} (h : Drs G (v :: vs) ds) : ∃ d es, ds = d :: es ∧ Dr G v d ∧ Drs G vs es := by
  cases h with
  | cons a b => exact ⟨_, _, rfl, a, b⟩
theorem outV_cases {o : Out} {sv : SV} (h : outV o = some sv) : (o = .nx ∧ sv = .val .none) ∨ o = .rt sv := by
  cases o with
  | nx => cases h; exact .inl ⟨rfl, rfl⟩
  | rt v => cases h; exact .inr rfl
  | bk => cases h
  | ct => cases h
theorem and3' {a b c : Bool} (h : (a && (b && c)) = true) : a = true ∧ b = true ∧ c = true := by
  cases a <;> cases b <;> cases c <;> first | exact ⟨rfl, rfl, rfl⟩ | cases h
theorem run_no {T : Nat → Option Fn} {f k : Nat} {fn : Fn} {row : Option (List D)} {ds : List D} {p : SV × List D} (h : T f = some fn) (hd : fn.dl = false) (e : run T (k + 1) f row ds = some p) :
    (ob (start fn row ds) fun ρ => bd (ex (run T k) fn.body ρ) fun o ρ1 => ob (outV o) fun v => ob (endR fn.io ρ1) fun r => some (v, r)) = some p := by
  have e : (ob (T f) fun fn => if fn.dl = true then (if isOb f = true then runO (run T k) fn row ds else runD (run T k) fn row ds) else runB (run T k) fn row ds) = some p := e
  rw [h] at e
  have e : (if fn.dl = true then (if isOb f = true then runO (run T k) fn row ds else runD (run T k) fn row ds) else runB (run T k) fn row ds) = some p := e
  rw [hd, if_neg (by decide)] at e
  exact e
theorem run_yes {T : Nat → Option Fn} {f k : Nat} {fn : Fn} {r ds : List D} {p : SV × List D} (h : T f = some fn) (hd : fn.dl = true) (no : isOb f = false) (e : run T (k + 1) f (some r) ds = some p) :
    (ob (startD fn r ds) fun ρ => bd (ex (run T k) fn.body ρ) fun o ρ1 => ob (outV o) fun v => ob (endD ds.length ρ1) fun r => some (v, r)) = some p := by
  have e : (ob (T f) fun fn => if fn.dl = true then (if isOb f = true then runO (run T k) fn (some r) ds else runD (run T k) fn (some r) ds) else runB (run T k) fn (some r) ds) = some p := e
  rw [h] at e
  have e : (if fn.dl = true then (if isOb f = true then runO (run T k) fn (some r) ds else runD (run T k) fn (some r) ds) else runB (run T k) fn (some r) ds) = some p := e
  rw [hd, if_pos rfl, no, if_neg (by decide)] at e
  exact e
theorem run_ob {T : Nat → Option Fn} {f k : Nat} {fn : Fn} {r ds : List D} {p : SV × List D} (h : T f = some fn) (hd : fn.dl = true) (no : isOb f = true) (e : run T (k + 1) f (some r) ds = some p) :
    (ob (startO fn r ds) fun ρ => bd (ex (run T k) fn.body ρ) fun o ρ1 => ob (outV o) fun v => ob (endO ρ1) fun r => some (v, r)) = some p := by
  have e : (ob (T f) fun fn => if fn.dl = true then (if isOb f = true then runO (run T k) fn (some r) ds else runD (run T k) fn (some r) ds) else runB (run T k) fn (some r) ds) = some p := e
  rw [h] at e
  have e : (if fn.dl = true then (if isOb f = true then runO (run T k) fn (some r) ds else runD (run T k) fn (some r) ds) else runB (run T k) fn (some r) ds) = some p := e
  rw [hd, if_pos rfl, no, if_pos rfl] at e
  exact e
theorem decO_encO : ∀ fs : List (Str × D), decO (encO fs) = some fs
  | [] => rfl
  | (f, v) :: r => by
    have ih := decO_encO r
    show (match decO (encO r) with | some q => some ((f, v) :: q) | none => none) = _
    rw [ih]
/-- at the entry of a method: the first parameter an instance that is changed in place -/
theorem rel_startO {G H : Hp} {N : List Str} {p dx : Addr} {us : List (Str × V)} {fs : List (Str × D)} {vs : List V} {ds : List D} {n : Nat} (s : Same G H) (hp : H p = some (.ins CA.a dx us)) (gp : G p = none) (rr : FsR G us fs) (r : Drs G vs ds) (hn : vs.length + 1 + n = N.length) :
    Rel G H (L2.start N (.ref p :: vs)) (.obj fs :: (ds.map .val ++ List.replicate n .un)) ∧ ∀ a, HotAt (L2.start N (.ref p :: vs)) (.obj fs :: (ds.map .val ++ List.replicate n .un)) a → a = p := by
  have hs : L2.start N (.ref p :: vs) = some (.ref p) :: (vs.map some ++ List.replicate (N.length - (vs.length + 1)) none) := rfl
  have hots : ∀ (j : Nat) (sv : SV), (SV.obj fs :: (ds.map SV.val ++ List.replicate n SV.un))[j]? = some sv → hot sv = true → j = 0 := fun j sv h1 h2 => by
    cases j with
    | zero => rfl
    | succ j =>
      rw [List.getElem?_cons_succ] at h1
      rcases ment_at h1 with ⟨d, _, rfl⟩ | ⟨_, rfl⟩ <;> cases h2
  refine ⟨⟨s, ?_, fun j o sv h1 h2 => ?_, fun i j a sv sv' _ h2 h3 _ l2 l3 => by rw [hots i sv h2 h3, hots j sv' l2 l3], Tie.no fun j l m z => by
    cases j with
    | zero => cases z
    | succ j =>
      rw [List.getElem?_cons_succ] at z
      rcases ment_at z with ⟨d, _, z⟩ | ⟨_, z⟩ <;> cases z⟩, fun a ⟨j, sv, h1, h2, h3⟩ => ?_⟩
  · rw [start_len (by rw [List.length_cons]; omega), List.length_cons, List.length_append, List.length_map, List.length_replicate, ← r.length]
    omega
  · cases j with
    | zero =>
      rw [hs] at h1
      cases h1
      cases h2
      exact .obj hp gp rr
    | succ j =>
      rw [List.getElem?_cons_succ] at h2
      rw [hs, List.getElem?_cons_succ] at h1
      rcases ment_at h2 with ⟨d, k1, rfl⟩ | ⟨_, rfl⟩
      · obtain ⟨v, k2, k3⟩ := r.getD k1
        have hj := (List.getElem?_eq_some_iff.mp k2).1
        rw [List.getElem?_append_left (by rw [List.length_map]; exact hj), List.getElem?_map, k2] at h1
        cases h1
        exact .val k3
      · exact .un _
  · have e := hots j sv h2 h3
    subst e
    rw [hs] at h1
    cases h1
    rfl
theorem intsD_mp : ∀ ns : List Int, intsD (ns.map .int) = some ns
  | [] => rfl
  | n :: r => by rw [List.map_cons]; unfold intsD; rw [intsD_mp r]; rfl
theorem decK_encK : ∀ kvs : List (List Int × D), decK (encK kvs) = some kvs
  | [] => rfl
  | (k, v) :: r => by
    have ih := decK_encK r
    have hk : keyD (.tuple (k.map .int)) = some k := by
      show intsD (k.map PyData.int) = some k
      exact intsD_mp k
    show (match keyD (.tuple (k.map .int)), decK (encK r) with | some ks, some q => some ((ks, v) :: q) | _, _ => none) = _
    rw [hk, ih]
/-- at the entry, the last parameter a dict that is changed in place -/
theorem rel_startD {G H : Hp} {N : List Str} {p : Addr} {xs : Ens} {kvs : List (List Int × D)} {vs : List V} {ds : List D} {n : Nat} (s : Same G H) (hp : H p = some (DO p xs)) (gp : G p = none) (rr : KvR G xs kvs) (r : Drs G vs ds) (hn : vs.length + 1 + n = N.length) :
    Rel G H (L2.start N (vs ++ [.ref p])) (ds.map .val ++ (.rdc kvs :: List.replicate n .un)) ∧ (∀ a, HotAt (L2.start N (vs ++ [.ref p])) (ds.map .val ++ (.rdc kvs :: List.replicate n .un)) a → a = p) ∧ (L2.start N (vs ++ [.ref p]))[ds.length]? = some (some (.ref p)) := by
  have hl := r.length
  have hs : L2.start N (vs ++ [.ref p]) = vs.map some ++ (some (.ref p) :: List.replicate n none) := by
    unfold L2.start
    rw [List.map_append, List.length_append]
    show vs.map some ++ [some (V.ref p)] ++ List.replicate (N.length - (vs.length + 1)) none = _
    rw [show N.length - (vs.length + 1) = n by omega, List.append_assoc]
    rfl
  have at_ : ∀ {j : Nat} {sv : SV}, (ds.map SV.val ++ (.rdc kvs :: List.replicate n .un))[j]? = some sv → (∃ d, ds[j]? = some d ∧ sv = .val d) ∨ (j = ds.length ∧ sv = .rdc kvs) ∨ (ds.length < j ∧ sv = .un) := fun {j sv} h => by
    by_cases hj : j < ds.length
    · rw [List.getElem?_append_left (by rw [List.length_map]; exact hj), List.getElem?_map, List.getElem?_eq_getElem hj] at h
      exact .inl ⟨ds[j], List.getElem?_eq_getElem hj, (Option.some.inj h).symm⟩
    · rw [List.getElem?_append_right (by rw [List.length_map]; omega), List.length_map] at h
      obtain ⟨i, hi⟩ : ∃ i, j - ds.length = i := ⟨_, rfl⟩
      rw [hi] at h
      cases i with
      | zero => exact .inr (.inl ⟨by omega, (Option.some.inj h).symm⟩)
      | succ i =>
        rw [List.getElem?_cons_succ] at h
        exact .inr (.inr ⟨by omega, (List.mem_replicate.mp (List.mem_of_getElem? h)).2⟩)
  have sp : (L2.start N (vs ++ [.ref p]))[ds.length]? = some (some (.ref p)) := by
    rw [hs, List.getElem?_append_right (by rw [List.length_map]; omega), List.length_map, show ds.length - vs.length = 0 by omega]
    rfl
  have hots : ∀ (j : Nat) (sv : SV), (ds.map SV.val ++ (.rdc kvs :: List.replicate n .un))[j]? = some sv → hot sv = true → j = ds.length := fun j sv h1 h2 => by
    rcases at_ h1 with ⟨d, _, rfl⟩ | ⟨h, _⟩ | ⟨_, rfl⟩
    · cases h2
    · exact h
    · cases h2
  refine ⟨⟨s, ?_, fun j o sv h1 h2 => ?_, fun i j a sv sv' _ h2 h3 _ l2 l3 => by rw [hots i sv h2 h3, hots j sv' l2 l3], Tie.no fun j l m z => by
    rcases at_ z with ⟨d, _, z⟩ | ⟨_, z⟩ | ⟨_, z⟩ <;> cases z⟩, fun a ⟨j, sv, h1, h2, h3⟩ => ?_, sp⟩
  · rw [hs, List.length_append, List.length_append, List.length_map, List.length_map, List.length_cons, List.length_cons, List.length_replicate, List.length_replicate, hl]
  · rcases at_ h2 with ⟨d, k1, rfl⟩ | ⟨rfl, rfl⟩ | ⟨_, rfl⟩
    · obtain ⟨v, k2, k3⟩ := r.getD k1
      have hj := (List.getElem?_eq_some_iff.mp k2).1
      rw [hs, List.getElem?_append_left (by rw [List.length_map]; exact hj), List.getElem?_map, k2] at h1
      cases h1
      exact .val k3
    · rw [sp] at h1
      cases h1
      exact .rdc hp gp rr
    · exact .un _
  · have e := hots j sv h2 h3
    subst e
    rw [sp] at h1
    cases h1
    rfl
/-- THE RULE: every def of the table does what the evaluator says -/
theorem tab_run (TO : TabOk T K mg) (hc : T.ok = true) : ∀ (k : Nat) (e : Ent), e ∈ T.all → ∀ nm fa fd, Fun K nm e.q e.st fa fd → FnOk P w K mg base CX0 (2 * k) fa fd e.ps (spF (run T.fn k) e.id e.fn.io) := by
  obtain ⟨hall, hms, hes⟩ := and3 (and2 hc).1
  have hnd : (T.all.map (·.id)).Nodup := of_decide_eq_true (and2 hc).2
  have look : ∀ e ∈ T.all, T.fn e.id = some e.fn := fun e he => by
    have main : ∀ l : List Ent, (l.map (·.id)).Nodup → e ∈ l → (l.find? fun d => d.id == e.id) = some e := by
      intro l
      induction l with
      | nil => intro _ h; cases h
      | cons d l ih =>
        intro nd h
        rw [List.map_cons, List.nodup_cons] at nd
        rcases List.mem_cons.mp h with rfl | h
        · exact List.find?_cons_of_pos (beq_self_eq_true _)
        · rw [List.find?_cons_of_neg (by
            intro z
            exact nd.1 (List.mem_map.mpr ⟨e, h, (beq_iff_eq.mp z).symm⟩))]
          exact ih nd.2 h
    unfold Tab.fn
    rw [main _ hnd he]
    rfl
  intro k
  induction k with
  | zero =>
    intro e he nm fa fd _
    have no : ∀ vs H Q E, ¬ spF (run T.fn 0) e.id e.fn.io vs H Q E := fun vs H Q E h => by
      cases hi : e.fn.io with
      | false => rw [hi] at h; obtain ⟨G, ds, sv, r, _, _, z, _⟩ := h; cases z
      | true =>
        rw [hi] at h
        rcases h with ⟨_, G, a, xs, row, ws, ds, sv, es, _, _, _, _, _, _, z, _⟩ | ⟨_, _, G, a, xs, row, ws, ds, sv, es, _, _, _, _, _, _, _, z, _⟩ | ⟨_, G, a, dx, us, fs, ws, ds, sv, es, fs', _, _, _, _, _, _, z, _⟩ <;> cases z
    exact ⟨fun vs H Q E h => (no vs H Q E h).elim, fun A outer s H args us vs Q E _ _ _ _ h => (no vs H Q E h).elim⟩
  | succ k ih =>
    intro e he nm fa fd F
    have h := List.all_eq_true.mp hall e he
    unfold Tab.entC at h
    obtain ⟨h0, h4, h5⟩ := and3 h
    obtain ⟨h4, h6, h7⟩ := and3' h4
    obtain ⟨h7, h8⟩ := and2 h7
    have h6 : e.fn.dl = isDl e.id := of_decide_eq_true h6
    obtain ⟨h1, h2, h3⟩ := and3 h0
    have SC : FnScope e.N e.ps (defScope e.st) := sco_ok h1
    have hnp : e.fn.np ≤ e.N.length := of_decide_eq_true h2
    have hnl : e.N.length = e.fn.nl := of_decide_eq_true h3
    have hps : e.ps.length = e.fn.np := by rw [List.length_take]; omega
    have hfn := look e he
    show FnOk P w K mg base CX0 (2 * k + 1 + 1) fa fd e.ps (spF (run T.fn (k + 1)) e.id e.fn.io)
    have okX : ∀ (cdv : Value) (A : Around) (outer : List Env) (s : Shared) (H : Hp) (E : XK), Room (2 * k + 1) (A.deeper (envOfC e.q (defScope e.st) s.heap.objs.size fa cdv)) →
        Ok (run T.fn k) (2 * k) (T.ck e) (cxOf CX0 P w K mg base e.N e.q (defScope e.st) fa cdv A outer s H E).nox := fun cdv A outer s H E hr =>
      { calm := rfl, N := rfl, sc := rfl, nd := SC.nd, room := hr.mono (Nat.le_succ _), rm := hr, fnb := rfl
        cst := fun x d hx => by
          obtain ⟨u, m, z⟩ := TO.cst (x, d) (PySem.mem_of_lookup hx)
          cases d with
          | int i => exact ⟨u, .int i, m, z, fun G => .int i⟩
          | str y => exact ⟨u, .str y, m, z, fun G => .str y⟩
          | _ => exact z.elim
        fn := fun x f io hx => by
          have hx : (T.es.find? fun e => e.x == x).map (fun e => (e.id, e.fn.io)) = some (f, io) := hx
          cases q : T.es.find? fun e => e.x == x with
          | none => rw [q] at hx; cases hx
          | some e2 =>
            rw [q] at hx
            cases hx
            have hm := List.mem_of_find?_eq_some q
            have hx2 : e2.x = x := by
              have z := List.find?_some q
              exact beq_iff_eq.mp z
            obtain ⟨fa2, fd2, m2, F2, B2⟩ := (TO.es e2 hm).ex
            exact ⟨fa2, fd2, e2.ps, by rw [← hx2]; exact m2, F2.kp, B2, ih e2 (List.mem_append_left _ hm) _ fa2 fd2 F2⟩
        bl := TO.bl
        xs := TO.xs
        tp := fun _ => ⟨rfl, rfl⟩
        mt := fun m f hx => by
          have hx : (T.ms.find? fun e => e.x == m).map (·.id) = some f := hx
          cases q : T.ms.find? fun e => e.x == m with
          | none => rw [q] at hx; cases hx
          | some e2 =>
            rw [q] at hx
            cases hx
            have hm := List.mem_of_find?_eq_some q
            have hx2 : e2.x = m := by
              have z := List.find?_some q
              exact beq_iff_eq.mp z
            obtain ⟨fa2, fd2, M2, F2, B2⟩ := TO.ms e2 hm
            have io2 : e2.fn.io = true := by
              have z := List.all_eq_true.mp hall e2 (List.mem_append_right _ hm)
              unfold Tab.entC at z
              obtain ⟨z0, z4, z5⟩ := and3 z
              obtain ⟨z4, z6, z7⟩ := and3' z4
              obtain ⟨z7, z8⟩ := and2 z7
              have z9 : isOb e2.id = true := List.all_eq_true.mp hms e2 hm
              have z6 : e2.fn.dl = isDl e2.id := of_decide_eq_true z6
              have : isDl e2.id = true := by
                cases qq : isDl e2.id with
                | true => rfl
                | false => rw [isOb_dl qq] at z9; cases z9
              rw [z6, this] at z7
              simpa using z7
            have FF := ih e2 (List.mem_append_right _ hm) _ fa2 fd2 F2
            rw [io2] at FF
            have hca : T.ca = true := by
              have z := List.all_eq_true.mp hall e2 (List.mem_append_right _ hm)
              unfold Tab.entC at z
              obtain ⟨z0, z4, z5⟩ := and3 z
              obtain ⟨z4, z6, z7⟩ := and3' z4
              obtain ⟨z7, z8⟩ := and2 z7
              have z9 : isOb e2.id = true := List.all_eq_true.mp hms e2 hm
              rw [z9] at z8
              simpa using z8
            exact ⟨fa2, fd2, e2.ps, (TO.ca hca).1, by rw [← hx2]; exact M2, B2, FF⟩
        cl := TO.ca }
    cases hi : e.fn.io with
    | false =>
      have hdl : e.fn.dl = false := by
        cases q : e.fn.dl with
        | false => rfl
        | true => rw [q, hi] at h7; cases h7
      refine F.ok SC (fun vs H Q E h => ?_) (fun cdv A outer s H vs Q E hr h => ?_)
      · obtain ⟨G, ds, sv, r, s1, D1, e1, q⟩ := h
        have e1 := run_no hfn hdl e1
        obtain ⟨ρ, e2, e1⟩ := ob_some e1
        have e2 : (if (!e.fn.io && decide (ds.length = e.fn.np)) = true then some (ds.map SV.val ++ List.replicate (e.fn.nl - e.fn.np) SV.un) else none) = some ρ := e2
        obtain ⟨z, _⟩ := ite_ob e2
        have z2 : ds.length = e.fn.np := of_decide_eq_true (and2 z).2
        rw [hps, D1.length, z2]
      · refine ⟨tS (run T.fn k) e.fn.body, sL e.fn.body (T.ck e) _ _ (okX cdv A outer s H E hr) PassesOwn.never h5, ?_⟩
        obtain ⟨G, ds, sv, r, s1, D1, e1, q⟩ := h
        have e1 := run_no hfn hdl e1
        obtain ⟨ρ, e2, e1⟩ := ob_some e1
        have e2 : (if (!e.fn.io && decide (ds.length = e.fn.np)) = true then some (ds.map SV.val ++ List.replicate (e.fn.nl - e.fn.np) SV.un) else none) = some ρ := e2
        obtain ⟨z, e2⟩ := ite_ob e2
        cases e2
        have z2 : ds.length = e.fn.np := of_decide_eq_true (and2 z).2
        obtain ⟨o, ρ1, e3, e1⟩ := bd_some e1
        obtain ⟨v1, e4, e1⟩ := ob_some e1
        obtain ⟨r1, e5, e1⟩ := ob_some e1
        cases e1
        have hl := D1.length
        obtain ⟨R, cold⟩ := rel_start (N := e.N) (n := e.fn.nl - e.fn.np) s1 D1 (by omega)
        have key : ∀ {G' H' : Hp} {σ' : St} {v : V}, Ext G H (L2.start e.N vs) (ds.map .val ++ List.replicate (e.fn.nl - e.fn.np) .un) G' H' σ' ρ1 → Rel G' H' σ' ρ1 → SvV G H G' H' v sv → Q v H' := fun {G' H' σ' v} E' R' V' =>
          q v H' ⟨G', E'.sub, R'.le, fun a o h => E'.keep a o h (cold a), fun a o h g t => E'.cold a o h g (cold a) t, V'⟩
        refine ⟨G, _, o, ρ1, R, e3, fun σ' H' G' E' R' => ?_⟩
        rcases outV_cases e4 with ⟨rfl, rfl⟩ | rfl
        · exact key E' R' .non
        · intro v S
          refine key E' R' ?_
          cases S with
          | val d => exact d
          | own h1 g1 d1 n1 c1 =>
            rcases n1 with n1 | n1
            · exact absurd n1 (cold _)
            · exact ⟨_, _, rfl, n1, g1, h1, d1⟩
          | dct h1 g1 d1 n1 c1 =>
            rcases n1 with n1 | n1
            · exact absurd n1 (cold _)
            · exact ⟨_, _, rfl, n1, g1, h1, d1⟩
          | dk h1 g1 d1 n1 c1 =>
            rcases n1 with n1 | n1
            · exact absurd n1 (cold _)
            · exact ⟨_, _, rfl, n1, g1, h1, d1⟩
    | true =>
      rw [hi] at h4
      have h4 : 0 < e.fn.np := of_decide_eq_true (by simpa using h4)
      by_cases hO : isOb e.id = true
      · have hD : isDl e.id = true := by
          cases qq : isDl e.id with
          | true => rfl
          | false => rw [isOb_dl qq] at hO; cases hO
        have hdl : e.fn.dl = true := by rw [h6]; exact hD
        refine F.ok SC (fun vs H Q E h => ?_) (fun cdv A outer s H vs Q E hr h => ?_)
        · rcases h with ⟨z, _⟩ | ⟨_, z, _⟩ | ⟨_, h⟩
          · rw [hD] at z; cases z
          · rw [hO] at z; cases z
          obtain ⟨G, a, dx, us, fs, ws, ds, sv, es, fs', rfl, s1, hp, gp, rr, D1, e1, e9, q⟩ := h
          have e1 := run_ob hfn hdl hO e1
          obtain ⟨ρ, e2, e1⟩ := ob_some e1
          unfold startO at e2
          by_cases z2 : ds.length + 1 = e.fn.np
          · rw [hps, List.length_cons, D1.length]; exact z2
          · rw [if_neg z2] at e2; cases e2
        · refine ⟨tS (run T.fn k) e.fn.body, sL e.fn.body (T.ck e) _ _ (okX cdv A outer s H E hr) PassesOwn.never h5, ?_⟩
          rcases h with ⟨z, _⟩ | ⟨_, z, _⟩ | ⟨_, h⟩
          · rw [hD] at z; cases z
          · rw [hO] at z; cases z
          obtain ⟨G, a, dx, us, fs, ws, ds, sv, es, fs', rfl, s1, hp, gp, rr, D1, e1, e9, q⟩ := h
          have e1 := run_ob hfn hdl hO e1
          obtain ⟨ρ, e2, e1⟩ := ob_some e1
          unfold startO at e2
          by_cases z2 : ds.length + 1 = e.fn.np
          rotate_left
          · rw [if_neg z2] at e2; cases e2
          rw [if_pos z2, decO_encO] at e2
          cases e2
          obtain ⟨o, ρ1, e3, e1⟩ := bd_some e1
          obtain ⟨v1, e4, e1⟩ := ob_some e1
          obtain ⟨r1, e5, e1⟩ := ob_some e1
          cases e1
          have hl := D1.length
          obtain ⟨R, hots⟩ := rel_startO (N := e.N) (n := e.fn.nl - e.fn.np) s1 hp gp rr D1 (by omega)
          have key : ∀ {G' H' : Hp} {σ' : St} {v : V}, Ext G H (L2.start e.N (.ref a :: ws)) (.obj fs :: (ds.map .val ++ List.replicate (e.fn.nl - e.fn.np) .un)) G' H' σ' ρ1 → Rel G' H' σ' ρ1 → (HotAt σ' ρ1 a → SvV G H G' H' v sv) → Q v H' := fun {G' H' σ' v} E' R' V' => by
            obtain ⟨q1, q2⟩ := E'.row 0 a 2 rfl rfl
            obtain ⟨sv9, q2, q9⟩ := lnt_at q2
            obtain ⟨f9, rfl⟩ : ∃ f9, sv9 = .obj f9 := by cases sv9 <;> first | exact ⟨_, rfl⟩ | cases q9
            have e6 : es = encO f9 := by
              unfold endO rd at e5
              rw [List.getD_eq_getElem?_getD, q2] at e5
              exact (Option.some.inj e5).symm
            subst e6
            rw [decO_encO] at e9
            cases e9
            have sl := R'.slot _ _ _ q1 q2
            cases sl with
            | obj x1 x2 x3 =>
              exact q v H' ⟨G', _, _, E'.sub, R'.le, fun b o hb hH => E'.keep b o hH fun z => hb (hots b z), fun b o hb hH hG t => E'.cold b o hH hG (fun z => hb (hots b z)) t, x2, x1, x3, V' ⟨0, _, q1, q2, rfl⟩⟩
          refine ⟨G, _, o, ρ1, R, e3, fun σ' H' G' E' R' => ?_⟩
          rcases outV_cases e4 with ⟨rfl, rfl⟩ | rfl
          · exact key E' R' fun _ => .non
          · intro v S
            refine key E' R' fun ha => ?_
            cases S with
            | val d => exact d
            | own h1 g1 d1 n1 c1 =>
              rcases n1 with n1 | n1
              · rw [hots _ n1] at c1
                exact absurd ha c1
              · exact ⟨_, _, rfl, n1, g1, h1, d1⟩
            | dct h1 g1 d1 n1 c1 =>
              rcases n1 with n1 | n1
              · rw [hots _ n1] at c1
                exact absurd ha c1
              · exact ⟨_, _, rfl, n1, g1, h1, d1⟩
            | dk h1 g1 d1 n1 c1 =>
              rcases n1 with n1 | n1
              · rw [hots _ n1] at c1
                exact absurd ha c1
              · exact ⟨_, _, rfl, n1, g1, h1, d1⟩
      have hO : isOb e.id = false := by
        cases qq : isOb e.id with
        | true => exact absurd qq hO
        | false => rfl
      by_cases hD : isDl e.id = true
      · have hdl : e.fn.dl = true := by rw [h6]; exact hD
        refine F.ok SC (fun vs H Q E h => ?_) (fun cdv A outer s H vs Q E hr h => ?_)
        · rcases h with ⟨z, _⟩ | ⟨_, _, h⟩ | ⟨z, _⟩
          · rw [hD] at z; cases z
          rotate_left
          · rw [hO] at z; cases z
          obtain ⟨G, a, xs, kvs, ws, ds, sv, es, kvs', rfl, s1, hp, gp, rr, D1, e1, e9, q⟩ := h
          have e1 := run_yes hfn hdl hO e1
          obtain ⟨ρ, e2, e1⟩ := ob_some e1
          unfold startD at e2
          by_cases z2 : ds.length + 1 = e.fn.np
          · rw [hps, List.length_append, D1.length]; exact z2
          · rw [if_neg z2] at e2; cases e2
        · refine ⟨tS (run T.fn k) e.fn.body, sL e.fn.body (T.ck e) _ _ (okX cdv A outer s H E hr) PassesOwn.never h5, ?_⟩
          rcases h with ⟨z, _⟩ | ⟨_, _, h⟩ | ⟨z, _⟩
          · rw [hD] at z; cases z
          rotate_left
          · rw [hO] at z; cases z
          obtain ⟨G, a, xs, kvs, ws, ds, sv, es, kvs', rfl, s1, hp, gp, rr, D1, e1, e9, q⟩ := h
          have e1 := run_yes hfn hdl hO e1
          obtain ⟨ρ, e2, e1⟩ := ob_some e1
          unfold startD at e2
          by_cases z2 : ds.length + 1 = e.fn.np
          rotate_left
          · rw [if_neg z2] at e2; cases e2
          rw [if_pos z2, decK_encK] at e2
          cases e2
          obtain ⟨o, ρ1, e3, e1⟩ := bd_some e1
          obtain ⟨v1, e4, e1⟩ := ob_some e1
          obtain ⟨r1, e5, e1⟩ := ob_some e1
          cases e1
          have hl := D1.length
          obtain ⟨R, hots, sp⟩ := rel_startD (N := e.N) (n := e.fn.nl - e.fn.np) s1 hp gp rr D1 (by omega)
          have rp : (ds.map SV.val ++ (.rdc kvs :: List.replicate (e.fn.nl - e.fn.np) SV.un))[ds.length]? = some (.rdc kvs) := by
            rw [List.getElem?_append_right (by rw [List.length_map]; omega), List.length_map, Nat.sub_self]; rfl
          have key : ∀ {G' H' : Hp} {σ' : St} {v : V}, Ext G H (L2.start e.N (ws ++ [.ref a])) (ds.map .val ++ (.rdc kvs :: List.replicate (e.fn.nl - e.fn.np) .un)) G' H' σ' ρ1 → Rel G' H' σ' ρ1 → (HotAt σ' ρ1 a → SvV G H G' H' v sv) → Q v H' := fun {G' H' σ' v} E' R' V' => by
            obtain ⟨q1, q2⟩ := E'.row ds.length a 0 sp (by rw [rp]; rfl)
            obtain ⟨sv9, q2, q9⟩ := lnt_at q2
            obtain ⟨kv9, rfl⟩ : ∃ k, sv9 = .rdc k := by cases sv9 <;> first | exact ⟨_, rfl⟩ | cases q9
            have e6 : es = encK kv9 := by
              unfold endD rd at e5
              rw [List.getD_eq_getElem?_getD, q2] at e5
              exact (Option.some.inj e5).symm
            subst e6
            rw [decK_encK] at e9
            cases e9
            have sl := R'.slot _ _ _ q1 q2
            cases sl with
            | rdc x1 x2 x3 =>
              exact q v H' ⟨G', _, E'.sub, R'.le, fun b o hb hH => E'.keep b o hH fun z => hb (hots b z), fun b o hb hH hG t => E'.cold b o hH hG (fun z => hb (hots b z)) t, x2, x1, x3, V' ⟨_, _, q1, q2, rfl⟩⟩
          refine ⟨G, _, o, ρ1, R, e3, fun σ' H' G' E' R' => ?_⟩
          rcases outV_cases e4 with ⟨rfl, rfl⟩ | rfl
          · exact key E' R' fun _ => .non
          · intro v S
            refine key E' R' fun ha => ?_
            cases S with
            | val d => exact d
            | own h1 g1 d1 n1 c1 =>
              rcases n1 with n1 | n1
              · rw [hots _ n1] at c1
                exact absurd ha c1
              · exact ⟨_, _, rfl, n1, g1, h1, d1⟩
            | dct h1 g1 d1 n1 c1 =>
              rcases n1 with n1 | n1
              · rw [hots _ n1] at c1
                exact absurd ha c1
              · exact ⟨_, _, rfl, n1, g1, h1, d1⟩
            | dk h1 g1 d1 n1 c1 =>
              rcases n1 with n1 | n1
              · rw [hots _ n1] at c1
                exact absurd ha c1
              · exact ⟨_, _, rfl, n1, g1, h1, d1⟩
      have hdl : e.fn.dl = false := by
        rw [h6]
        cases q : isDl e.id with
        | true => exact absurd q hD
        | false => rfl
      refine F.ok SC (fun vs H Q E h => ?_) (fun cdv A outer s H vs Q E hr h => ?_)
      · rcases h with ⟨_, h⟩ | ⟨z, _⟩ | ⟨z, _⟩
        rotate_left
        · exact absurd z hD
        · rw [hO] at z; cases z
        obtain ⟨G, a, xs, row, ws, ds, sv, es, rfl, s1, hp, gp, rr, D1, e1, q⟩ := h
        have e1 := run_no hfn hdl e1
        obtain ⟨ρ, e2, e1⟩ := ob_some e1
        have e2 : (if (e.fn.io && decide (ds.length + 1 = e.fn.np)) = true then some (SV.row row :: (ds.map SV.val ++ List.replicate (e.fn.nl - e.fn.np) SV.un)) else none) = some ρ := e2
        obtain ⟨z, _⟩ := ite_ob e2
        have z2 : ds.length + 1 = e.fn.np := of_decide_eq_true (and2 z).2
        rw [hps, List.length_cons, D1.length, z2]
      · refine ⟨tS (run T.fn k) e.fn.body, sL e.fn.body (T.ck e) _ _ (okX cdv A outer s H E hr) PassesOwn.never h5, ?_⟩
        rcases h with ⟨_, h⟩ | ⟨z, _⟩ | ⟨z, _⟩
        rotate_left
        · exact absurd z hD
        · rw [hO] at z; cases z
        obtain ⟨G, a, xs, row, ws, ds, sv, es, rfl, s1, hp, gp, rr, D1, e1, q⟩ := h
        have e1 := run_no hfn hdl e1
        obtain ⟨ρ, e2, e1⟩ := ob_some e1
        have e2 : (if (e.fn.io && decide (ds.length + 1 = e.fn.np)) = true then some (SV.row row :: (ds.map SV.val ++ List.replicate (e.fn.nl - e.fn.np) SV.un)) else none) = some ρ := e2
        obtain ⟨z, e2⟩ := ite_ob e2
        cases e2
        have z2 : ds.length + 1 = e.fn.np := of_decide_eq_true (and2 z).2
        obtain ⟨o, ρ1, e3, e1⟩ := bd_some e1
        obtain ⟨v1, e4, e1⟩ := ob_some e1
        obtain ⟨r1, e5, e1⟩ := ob_some e1
        cases e1
        have hl := D1.length
        obtain ⟨R, hots⟩ := rel_startR (N := e.N) (n := e.fn.nl - e.fn.np) s1 hp gp rr D1 (by omega)
        rw [hi] at e5
        have e5 : (match rd ρ1 0 with | .row r => some r | _ => none) = some es := e5
        have key : ∀ {G' H' : Hp} {σ' : St} {v : V}, Ext G H (L2.start e.N (.ref a :: ws)) (.row row :: (ds.map .val ++ List.replicate (e.fn.nl - e.fn.np) .un)) G' H' σ' ρ1 → Rel G' H' σ' ρ1 → (HotAt σ' ρ1 a → SvV G H G' H' v sv) → Q v H' := fun {G' H' σ' v} E' R' V' => by
          obtain ⟨q1, q2⟩ := E'.row 0 a 1 rfl rfl
          obtain ⟨sv9, q2, q9⟩ := lnt_at q2
          obtain ⟨ds', rfl⟩ : ∃ ds', sv9 = .row ds' := by cases sv9 <;> first | exact ⟨_, rfl⟩ | cases q9
          have e6 : es = ds' := by
            unfold rd at e5
            rw [List.getD_eq_getElem?_getD, q2] at e5
            exact (Option.some.inj e5).symm
          subst e6
          have sl := R'.slot 0 _ _ q1 q2
          cases sl with
          | row x1 x2 x3 =>
            exact q v H' ⟨G', _, E'.sub, R'.le, fun b o hb hH => E'.keep b o hH fun z => hb (hots b z), fun b o hb hH hG t => E'.cold b o hH hG (fun z => hb (hots b z)) t, x2, x1, x3, V' ⟨0, _, q1, q2, rfl⟩⟩
        refine ⟨G, _, o, ρ1, R, e3, fun σ' H' G' E' R' => ?_⟩
        rcases outV_cases e4 with ⟨rfl, rfl⟩ | rfl
        · exact key E' R' fun _ => .non
        · intro v S
          refine key E' R' fun ha => ?_
          cases S with
          | val d => exact d
          | own h1 g1 d1 n1 c1 =>
            rcases n1 with n1 | n1
            · rw [hots _ n1] at c1
              exact absurd ha c1
            · exact ⟨_, _, rfl, n1, g1, h1, d1⟩
          | dct h1 g1 d1 n1 c1 =>
            rcases n1 with n1 | n1
            · rw [hots _ n1] at c1
              exact absurd ha c1
            · exact ⟨_, _, rfl, n1, g1, h1, d1⟩
          | dk h1 g1 d1 n1 c1 =>
            rcases n1 with n1 | n1
            · rw [hots _ n1] at c1
              exact absurd ha c1
            · exact ⟨_, _, rfl, n1, g1, h1, d1⟩

/-! ### a law's end -/
theorem mem_look : ∀ {K : PySem.W.Frag} {a : Addr} {o : Obj}, K.lookup a = some o → (a, o) ∈ K
  | [], _, _, h => by cases h
  | (b, u) :: r, a, o, h => by
    rw [List.lookup_cons] at h
    split at h
    · next z =>
      cases h
      rw [beq_iff_eq] at z
      subst z
      exact List.mem_cons_self
    · exact List.mem_cons_of_mem _ (mem_look h)
def noLst (K : PySem.W.Frag) : Bool := K.all fun p => !(p.2.cls == .type "list")
/-- what a law promises of its def -/
def spLaw (K : PySem.W.Frag) (n : Nat) : Sp := fun vs H Q _ => ∃ (a : Addr) (ns : List Int), vs = [.ref a] ∧ ns.length ≤ n ∧ Only H ∧ SqL K H a (ns.map V.int) ∧ ∀ H', Q (.bl true) H'
theorem law_run (TO : TabOk T K mg) (hc : T.ok = true) {k n : Nat} {e : Ent} (he : e ∈ T.es) (hio : e.fn.io = false) {fa : Addr} {fd : FuncData} (hmg : mg e.x = some (.ref fa)) (F : Fun K e.q e.q e.st fa fd) (nl : noLst K = true)
    (hlaw : ∀ ns : List Int, ns.length ≤ n → ∃ r, run T.fn k e.id none [scrD ns] = some (.val (.bool true), r)) : FnOk P w K mg base CX0 (2 * k) fa fd e.ps (spLaw K n) := by
  have F1 := tab_run (P := P) (w := w) (base := base) TO hc k e (List.mem_append_left _ he) _ fa fd F
  rw [hio] at F1
  refine F1.imp fun vs H Q E ⟨a, ns, ev, hn, ho, hS, q⟩ => ?_
  subst ev
  obtain ⟨r, hr⟩ := hlaw ns hn
  have hf : ∃ o, H a = some (.frz o (.lst (ns.map V.int))) := by
    rcases hS with (h | h) | ⟨o, its, n2, hk, hcl, _⟩
    · rcases ho a with z | ⟨o, xs, z⟩
      · rw [h] at z; cases z
      · rw [h] at z; cases z
    · exact h
    · exfalso
      have z := List.all_eq_true.mp nl (a, o) (mem_look hk)
      have z2 : (!(o.cls == Value.type "list")) = true := z
      rw [hcl] at z2
      rw [show (Value.type "list" == Value.type "list") = true from beq_self_eq_true _] at z2
      cases z2
  obtain ⟨o, hf⟩ := hf
  refine ⟨H, [scrD ns], .val (.bool true), r, Same.refl _, .cons (.scr ns hf) .nil, hr, fun v H' N => ?_⟩
  obtain ⟨G', _, _, _, _, V'⟩ := N
  cases V' with
  | bl b => exact q H'
end
end DP

/-! a law's end by one run of the top in the kernel -/
namespace DP
open PySem PySem.Spec PyProof.Rows L2
theorem fun_D {K : PySem.W.Frag} {x q : Str} {st : Stmt} {f : Addr} {fd : FuncData} (F : FunD K x q (defArgs st) (defBody st) (defScope st) [] [] f fd) : Fun K x q st f fd := by
  obtain ⟨oc, od, dV, kV, doc, pm, an, cdv, ct, osl, e, lk, hc, hd, _⟩ := F.ex
  have hd : dV = .none := by
    rcases hd with ⟨_, h⟩ | ⟨h, _⟩
    · exact h
    · exact absurd rfl h
  subst hd
  exact ⟨⟨oc, od, kV, doc, pm, an, cdv, ct, osl, e, lk, hc⟩, F.kp⟩
theorem cst_int {mg : Str → Option Value} {x : Str} {i : Int} (h : ∃ t, mg x = some (.int i t)) : ∃ u, mg x = some u ∧ cstD (.int i) u := by
  obtain ⟨t, e⟩ := h
  exact ⟨_, e, t, rfl⟩
theorem cst_str {mg : Str → Option Value} {x z : Str} (h : ∃ t, mg x = some (.str z t)) : ∃ u, mg x = some u ∧ cstD (.str z) u := by
  obtain ⟨t, e⟩ := h
  exact ⟨_, e, t, rfl⟩
theorem mkr_mk {K : PySem.W.Frag} {x : Str} (c : (He.Fa.mkr x).ok K = true) : PySem.W.makesIn K (He.ga K x) = true := (He.ba c).1
theorem mkr_kp {K : PySem.W.Frag} {x : Str} (c : (He.Fa.mkr x).ok K = true) : PySem.W.keepIn K (.ref (He.ga K x)) = true := (He.ba (He.ba (He.ba c).2).2).2
end DP

namespace DP
open PySem PySem.Spec PyProof.Rows L2
/-- is_in -/
def fn_1 : Fn := ⟨3, false, 3,
    (.seq (.ret (.and (.isi (.var 0) .int) (.and (.not (.isi (.var 0) .bool)) (.chain .le .le (.var 1) (.var 0) (.var 2)))))
    .skip), false⟩
/-- gcd -/
def fn_77 : Fn := ⟨2, false, 2,
    (.seq (.par [0, 1] (.cons (.blt1 .abs (.var 0)) (.cons (.blt1 .abs (.var 1)) .nil)))
    (.seq (.while_ (.cmp .ne (.var 1) (.int 0)) (.seq (.par [0, 1] (.cons (.var 1) (.cons (.op .mod (.var 0) (.var 1)) .nil)))
    .skip))
    (.seq (.ret (.var 0))
    .skip))), false⟩
/-- reduced -/
def fn_78 : Fn := ⟨2, false, 3,
    (.seq (.set 2 (.call 77 (.cons (.var 0) (.cons (.var 1) .nil))))
    (.seq (.ite (.cmp .lt (.var 1) (.int 0)) (.seq (.set 2 (.neg (.var 2)))
    .skip) .skip)
    (.seq (.ret (.tup (.cons (.op .fdiv (.var 0) (.var 2)) (.cons (.op .fdiv (.var 1) (.var 2)) .nil))))
    .skip))), false⟩
/-- is_factor -/
def fn_2 : Fn := ⟨1, false, 1,
    (.seq (.ret (.call 1 (.cons (.var 0) (.cons (.int 2) (.cons (.int 9) .nil)))))
    .skip), false⟩
/-- need_table -/
def fn_3 : Fn := ⟨1, false, 3,
    (.seq (.ite (.or (.not (.isi (.var 0) .tuple)) (.or (.cmp .ne (.blt1 .len (.var 0)) (.int 2)) (.not (.call 2 (.cons (.idx (.var 0) (.int 0)) .nil))))) (.seq .never
    .skip) .skip)
    (.seq (.ite (.or (.not (.isi (.idx (.var 0) (.int 1)) .tuple)) (.not (.chain .le .le (.int 1) (.blt1 .len (.idx (.var 0) (.int 1))) (.int 6)))) (.seq .never
    .skip) .skip)
    (.seq (.for_ (.many [1, 2]) (.enum (.idx (.var 0) (.int 1))) (.seq (.ite (.not (.call 1 (.cons (.var 2) (.cons (.int 0) (.cons (.int 1000000) .nil))))) (.seq .never
    .skip) .skip)
    .skip))
    (.seq (.ite (.cmp .eq (.blt1 .sum (.idx (.var 0) (.int 1))) (.int 0)) (.seq .never
    .skip) .skip)
    .skip)))), false⟩
/-- need_player -/
def fn_4 : Fn := ⟨2, false, 2,
    (.seq (.ite (.not (.call 1 (.cons (.var 1) (.cons (.int 0) (.cons (.op .sub (.blt1 .len (.idx (.var 0) (.int 1))) (.int 1)) .nil))))) (.seq .never
    .skip) .skip)
    .skip), false⟩
/-- owed_in -/
def fn_6 : Fn := ⟨3, false, 5,
    (.seq (.set 3 (.comp (.op .mul (.var 0) (.var 4)) (.seq (.var 1)) (.one 4) .nil [4]))
    (.seq (.seti 3 (.var 2) (.op .sub (.op .mul (.var 0) (.idx (.var 1) (.var 2))) (.op .mul (.op .sub (.var 0) (.int 1)) (.blt1 .sum (.var 1)))))
    (.seq (.ret (.blt1 .tuple (.var 3)))
    .skip))), false⟩
/-- payers_in -/
def fn_7 : Fn := ⟨2, false, 3,
    (.seq (.ret (.comp (.var 2) (.rng1 (.blt1 .len (.var 1))) (.one 2) (.cmp .ge (.op .mul (.var 0) (.idx (.var 1) (.var 2))) (.op .mul (.op .sub (.var 0) (.int 1)) (.blt1 .sum (.var 1)))) [2]))
    .skip), false⟩
/-- need_factor -/
def fn_19 : Fn := ⟨1, false, 1,
    (.seq (.ite (.not (.call 2 (.cons (.var 0) .nil))) (.seq .never
    .skip) .skip)
    .skip), false⟩
/-- need_players -/
def fn_20 : Fn := ⟨1, false, 1,
    (.seq (.ite (.not (.call 1 (.cons (.var 0) (.cons (.int 1) (.cons (.int 6) .nil))))) (.seq .never
    .skip) .skip)
    .skip), false⟩
/-- need_word -/
def fn_21 : Fn := ⟨2, false, 3,
    (.seq (.ite (.or (.not (.isi (.var 1) .tuple)) (.cmp .gt (.blt1 .len (.var 1)) (.int 40))) (.seq .never
    .skip) .skip)
    (.seq (.ite (.cmp .ne (.comp (.var 2) (.seq (.var 1)) (.one 2) (.not (.call 1 (.cons (.var 2) (.cons (.int 0) (.cons (.op .sub (.var 0) (.int 1)) .nil))))) [2]) (.lst .nil)) (.seq .never
    .skip) .skip)
    .skip)), false⟩
/-- need_rounds -/
def fn_22 : Fn := ⟨1, false, 1,
    (.seq (.ite (.not (.call 1 (.cons (.var 0) (.cons (.int 0) (.cons (.int 40) .nil))))) (.seq .never
    .skip) .skip)
    .skip), false⟩
/-- power -/
def fn_25 : Fn := ⟨2, false, 4,
    (.seq (.set 2 (.int 1))
    (.seq (.for_ (.one 3) (.rng1 (.var 1)) (.seq (.aug 2 .mul (.var 0))
    .skip))
    (.seq (.ret (.var 2))
    .skip))), false⟩
/-- numbers_in -/
def fn_26 : Fn := ⟨3, false, 6,
    (.seq (.set 3 (.op .mul (.lst (.cons (.int 0) .nil)) (.var 1)))
    (.seq (.for_ (.one 4) (.seq (.var 2)) (.seq (.set 3 (.comp (.op .mul (.var 0) (.var 5)) (.seq (.var 3)) (.one 5) .nil [5]))
    (.seq (.augi 3 (.var 4) .add (.op .sub (.var 0) (.int 1)))
    .skip)))
    (.seq (.ret (.var 3))
    .skip))), false⟩
/-- after_in -/
def fn_30 : Fn := ⟨3, false, 7,
    (.seq (.par [3, 4] (.cons (.call 25 (.cons (.var 0) (.cons (.blt1 .len (.var 2)) .nil))) (.cons (.blt1 .sum (.var 1)) .nil)))
    (.seq (.ret (.blt1 .tuple (.comp (.op .sub (.op .mul (.var 3) (.var 5)) (.op .mul (.var 4) (.var 6))) (.zip (.var 1) (.call 26 (.cons (.var 0) (.cons (.blt1 .len (.var 1)) (.cons (.var 2) .nil))))) (.many [5, 6]) .nil [5, 6])))
    .skip)), false⟩
/-- payable_in -/
def fn_37 : Fn := ⟨2, false, 8,
    (.seq (.set 2 (.lst (.cons (.tup (.cons (.tup .nil) (.cons (.idx (.var 0) (.int 1)) .nil))) .nil)))
    (.seq (.for_ (.one 3) (.rng1 (.var 1)) (.seq (.set 4 (.lst .nil))
    (.seq (.for_ (.many [5, 6]) (.seq (.var 2)) (.seq (.for_ (.one 7) (.seq (.call 7 (.cons (.idx (.var 0) (.int 0)) (.cons (.var 6) .nil)))) (.seq (.app 4 (.tup (.cons (.op .add (.var 5) (.tup (.cons (.var 7) .nil))) (.cons (.call 6 (.cons (.idx (.var 0) (.int 0)) (.cons (.var 6) (.cons (.var 7) .nil)))) .nil))))
    .skip))
    .skip))
    (.seq (.set 2 (.var 4))
    .skip))))
    (.seq (.ret (.comp (.var 5) (.seq (.var 2)) (.many [5, 6]) .nil [5, 6]))
    .skip))), false⟩
/-- need_both -/
def fn_119 : Fn := ⟨2, false, 2,
    (.seq (.expr (.call 3 (.cons (.var 0) .nil)))
    (.seq (.expr (.call 21 (.cons (.blt1 .len (.idx (.var 0) (.int 1))) (.cons (.var 1) .nil))))
    .skip)), false⟩
/-- line_of -/
def fn_120 : Fn := ⟨2, false, 5,
    (.seq (.par [2, 3] (.cons (.lst .nil) (.cons (.idx (.var 0) (.int 1)) .nil)))
    (.seq (.for_ (.one 4) (.seq (.var 1)) (.seq (.app 2 (.var 3))
    (.seq (.set 3 (.call 6 (.cons (.idx (.var 0) (.int 0)) (.cons (.var 3) (.cons (.var 4) .nil)))))
    .skip)))
    (.seq (.ret (.var 2))
    .skip))), false⟩
/-- moved_along -/
def fn_121 : Fn := ⟨2, false, 5,
    (.seq (.set 2 (.blt1 .sum (.idx (.var 0) (.int 1))))
    (.seq (.ret (.comp (.op .mul (.op .sub (.idx (.var 0) (.int 0)) (.int 1)) (.op .sub (.var 2) (.idx (.var 3) (.var 4)))) (.zip (.call 120 (.cons (.var 0) (.cons (.var 1) .nil))) (.var 1)) (.many [3, 4]) .nil [3, 4]))
    .skip)), false⟩
/-- word_in -/
def fn_122 : Fn := ⟨2, false, 3,
    (.seq (.set 2 (.call 37 (.cons (.var 0) (.cons (.var 1) .nil))))
    (.seq (.ret (.ife (.cmp .ne (.var 2) (.lst .nil)) (.idx (.var 2) (.int 0)) .non))
    .skip)), false⟩
/-- moved_in -/
def fn_123 : Fn := ⟨2, false, 3,
    (.seq (.expr (.call 3 (.cons (.var 0) .nil)))
    (.seq (.expr (.call 22 (.cons (.var 1) .nil)))
    (.seq (.set 2 (.call 122 (.cons (.var 0) (.cons (.var 1) .nil))))
    (.seq (.ret (.ife (.isn (.var 2)) .non (.blt1 .sum (.call 121 (.cons (.var 0) (.cons (.var 2) .nil))))))
    .skip)))), false⟩
/-- moved_word -/
def fn_124 : Fn := ⟨2, false, 2,
    (.seq (.expr (.call 119 (.cons (.var 0) (.cons (.var 1) .nil))))
    (.seq (.ret (.blt1 .tuple (.call 121 (.cons (.var 0) (.cons (.var 1) .nil)))))
    .skip)), false⟩
/-- gains -/
def fn_125 : Fn := ⟨2, false, 4,
    (.seq (.expr (.call 119 (.cons (.var 0) (.cons (.var 1) .nil))))
    (.seq (.ret (.blt1 .tuple (.comp (.op .sub (.var 2) (.var 3)) (.zip (.call 30 (.cons (.idx (.var 0) (.int 0)) (.cons (.idx (.var 0) (.int 1)) (.cons (.var 1) .nil)))) (.idx (.var 0) (.int 1))) (.many [2, 3]) .nil [2, 3])))
    .skip)), false⟩
/-- handed -/
def fn_127 : Fn := ⟨2, false, 5,
    (.seq (.expr (.call 119 (.cons (.var 0) (.cons (.var 1) .nil))))
    (.seq (.set 2 (.op .mul (.lst (.cons (.int 0) .nil)) (.blt1 .len (.idx (.var 0) (.int 1)))))
    (.seq (.for_ (.many [3, 4]) (.zip (.var 1) (.call 121 (.cons (.var 0) (.cons (.var 1) .nil)))) (.seq (.augi 2 (.var 3) .add (.var 4))
    .skip))
    (.seq (.ret (.blt1 .tuple (.var 2)))
    .skip)))), false⟩
/-- taken -/
def fn_128 : Fn := ⟨2, false, 7,
    (.seq (.expr (.call 119 (.cons (.var 0) (.cons (.var 1) .nil))))
    (.seq (.set 2 (.op .mul (.lst (.cons (.int 0) .nil)) (.blt1 .len (.idx (.var 0) (.int 1)))))
    (.seq (.for_ (.many [3, 4]) (.zip (.var 1) (.call 120 (.cons (.var 0) (.cons (.var 1) .nil)))) (.seq (.for_ (.many [5, 6]) (.enum (.var 4)) (.seq (.ite (.cmp .ne (.var 5) (.var 3)) (.seq (.augi 2 (.var 5) .add (.op .mul (.op .sub (.idx (.var 0) (.int 0)) (.int 1)) (.var 6)))
    .skip) .skip)
    .skip))
    .skip))
    (.seq (.ret (.blt1 .tuple (.var 2)))
    .skip)))), false⟩
/-- most_moved -/
def fn_286 : Fn := ⟨2, false, 7,
    (.seq (.expr (.call 3 (.cons (.var 0) .nil)))
    (.seq (.ite (.not (.call 1 (.cons (.var 1) (.cons (.int 0) (.cons (.int 6) .nil))))) (.seq .never
    .skip) .skip)
    (.seq (.set 2 (.lst (.cons (.tup .nil) .nil)))
    (.seq (.for_ (.one 3) (.rng1 (.var 1)) (.seq (.set 2 (.comp2 (.op .add (.var 5) (.tup (.cons (.var 6) .nil))) (.seq (.var 2)) (.one 5) .nil [5, 6] (.rng1 (.blt1 .len (.idx (.var 0) (.int 1)))) (.one 6) .nil [6]))
    .skip))
    (.seq (.set 4 (.blt1 .min (.comp (.tup (.cons (.neg (.blt1 .sum (.call 121 (.cons (.var 0) (.cons (.var 5) .nil))))) (.cons (.var 5) .nil))) (.seq (.var 2)) (.one 5) .nil [5])))
    (.seq (.ret (.tup (.cons (.neg (.idx (.var 4) (.int 0))) (.cons (.idx (.var 4) (.int 1)) .nil))))
    .skip)))))), false⟩
/-- payer_order -/
def fn_219 : Fn := ⟨2, false, 5,
    (.seq (.expr (.call 3 (.cons (.var 0) .nil)))
    (.seq (.expr (.call 22 (.cons (.var 1) .nil)))
    (.seq (.set 2 (.call 122 (.cons (.var 0) (.cons (.var 1) .nil))))
    (.seq (.ite (.isn (.var 2)) (.seq (.ret .non)
    .skip) .skip)
    (.seq (.ret (.blt1 .tuple (.comp (.var 4) (.enum (.var 2)) (.many [3, 4]) (.cmp .notin (.var 4) (.slice (.var 2) .nil (.var 3))) [3, 4])))
    .skip))))), false⟩
/-- times_paid -/
def fn_220 : Fn := ⟨2, false, 4,
    (.seq (.expr (.call 3 (.cons (.var 0) .nil)))
    (.seq (.expr (.call 22 (.cons (.var 1) .nil)))
    (.seq (.set 2 (.call 122 (.cons (.var 0) (.cons (.var 1) .nil))))
    (.seq (.ret (.ife (.isn (.var 2)) .non (.blt1 .tuple (.comp (.meth .count (.var 2) (.var 3)) (.rng1 (.blt1 .len (.idx (.var 0) (.int 1)))) (.one 3) .nil [3]))))
    .skip)))), false⟩
/-- shared -/
def fn_173 : Fn := ⟨1, false, 3,
    (.seq (.set 1 (.int 0))
    (.seq (.for_ (.one 2) (.seq (.var 0)) (.seq (.set 1 (.call 77 (.cons (.var 1) (.cons (.var 2) .nil))))
    .skip))
    (.seq (.ret (.blt1 .tuple (.comp (.op .fdiv (.var 2) (.var 1)) (.seq (.var 0)) (.one 2) .nil [2])))
    .skip))), false⟩
/-- step -/
def fn_174 : Fn := ⟨2, false, 3,
    (.seq (.set 2 (.call 7 (.cons (.var 0) (.cons (.var 1) .nil))))
    (.seq (.ret (.ife (.cmp .ne (.var 2) (.lst .nil)) (.call 6 (.cons (.var 0) (.cons (.var 1) (.cons (.idx (.var 2) (.int 0)) .nil)))) .non))
    .skip)), false⟩
/-- forever_in -/
def fn_175 : Fn := ⟨2, false, 5,
    (.seq (.set 2 (.call 173 (.cons (.var 1) .nil)))
    (.seq (.ite (.and (.cmp .eq (.var 0) (.int 2)) (.cmp .lt (.blt1 .len (.comp (.var 4) (.seq (.var 2)) (.one 4) (.cmp .gt (.var 4) (.int 0)) [4])) (.int 3))) (.seq (.ret (.bl true))
    .skip) .skip)
    (.seq (.set 3 (.dx .new 0 .nil .nil))
    (.seq (.while_ (.and (.isnt (.var 2)) (.dx .nin 3 (.var 2) .nil)) (.seq (.dput 3 (.var 2) (.bl true))
    (.seq (.set 2 (.call 174 (.cons (.var 0) (.cons (.var 2) .nil))))
    .skip)))
    (.seq (.ret (.isnt (.var 2)))
    .skip))))), false⟩
/-- line -/
def fn_183 : Fn := ⟨2, false, 4,
    (.seq (.par [2, 3] (.cons (.lst .nil) (.cons (.var 1) .nil)))
    (.seq (.while_ (.isnt (.var 3)) (.seq (.app 2 (.var 3))
    (.seq (.set 3 (.call 174 (.cons (.var 0) (.cons (.var 3) .nil))))
    .skip)))
    (.seq (.ret (.var 2))
    .skip))), false⟩
/-- split -/
def fn_177 : Fn := ⟨2, false, 4,
    (.seq (.par [2, 3] (.cons (.var 1) (.cons (.int 0) .nil)))
    (.seq (.while_ (.cmp .gt (.call 77 (.cons (.var 2) (.cons (.var 0) .nil))) (.int 1)) (.seq (.aug 2 .fdiv (.call 77 (.cons (.var 2) (.cons (.var 0) .nil))))
    (.seq (.aug 3 .add (.int 1))
    .skip)))
    (.seq (.ret (.tup (.cons (.var 3) (.cons (.var 2) .nil))))
    .skip))), false⟩
/-- order_of -/
def fn_178 : Fn := ⟨2, false, 4,
    (.seq (.ite (.cmp .eq (.var 1) (.int 1)) (.seq (.ret (.int 1))
    .skip) .skip)
    (.seq (.par [2, 3] (.cons (.int 1) (.cons (.op .mod (.var 0) (.var 1)) .nil)))
    (.seq (.while_ (.cmp .ne (.var 3) (.int 1)) (.seq (.par [2, 3] (.cons (.op .add (.var 2) (.int 1)) (.cons (.op .mod (.op .mul (.var 3) (.var 0)) (.var 1)) .nil)))
    .skip))
    (.seq (.ret (.var 2))
    .skip)))), false⟩
/-- period_in -/
def fn_180 : Fn := ⟨2, false, 4,
    (.seq (.unp [2, 3] (.call 177 (.cons (.var 0) (.cons (.blt1 .sum (.call 173 (.cons (.var 1) .nil))) .nil))))
    (.seq (.ret (.tup (.cons (.var 2) (.cons (.call 178 (.cons (.var 0) (.cons (.var 3) .nil))) .nil))))
    .skip)), false⟩
/-- payers_along -/
def fn_189 : Fn := ⟨3, false, 6,
    (.seq (.par [3, 4] (.cons (.lst .nil) (.cons (.var 1) .nil)))
    (.seq (.for_ (.one 5) (.rng1 (.var 2)) (.seq (.app 3 (.idx (.call 7 (.cons (.var 0) (.cons (.var 4) .nil))) (.int 0)))
    (.seq (.set 4 (.call 174 (.cons (.var 0) (.cons (.var 4) .nil))))
    .skip)))
    (.seq (.ret (.var 3))
    .skip))), false⟩
/-- shares -/
def fn_276 : Fn := ⟨2, false, 4,
    (.seq (.ite (.cmp .eq (.var 1) (.int 1)) (.seq (.ret (.lst (.cons (.tup (.cons (.var 0) .nil)) .nil)))
    .skip) .skip)
    (.seq (.ret (.comp2 (.op .add (.tup (.cons (.var 2) .nil)) (.var 3)) (.rng1 (.op .add (.var 0) (.int 1))) (.one 2) .nil [2, 3] (.seq (.call 276 (.cons (.op .sub (.var 0) (.var 2)) (.cons (.op .sub (.var 1) (.int 1)) .nil)))) (.one 3) .nil [3]))
    .skip)), false⟩
/-- need_few -/
def fn_202 : Fn := ⟨1, false, 1,
    (.seq (.ite (.not (.call 1 (.cons (.var 0) (.cons (.int 1) (.cons (.int 4) .nil))))) (.seq .never
    .skip) .skip)
    .skip), false⟩
/-- need_words -/
def fn_394 : Fn := ⟨3, false, 3,
    (.seq (.expr (.call 19 (.cons (.var 0) .nil)))
    (.seq (.expr (.call 202 (.cons (.var 1) .nil)))
    (.seq (.ite (.not (.call 1 (.cons (.var 2) (.cons (.int 1) (.cons (.int 6) .nil))))) (.seq .never
    .skip) .skip)
    (.seq (.ite (.cmp .gt (.call 25 (.cons (.var 1) (.cons (.var 2) .nil))) (.int 2000)) (.seq .never
    .skip) .skip)
    .skip)))), false⟩
/-- words_in_allwords -/
def fn_376 : Fn := ⟨2, false, 6,
    (.seq (.set 2 (.lst (.cons (.tup .nil) .nil)))
    (.seq (.for_ (.one 3) (.rng1 (.var 1)) (.seq (.set 2 (.comp2 (.op .add (.var 4) (.tup (.cons (.var 5) .nil))) (.seq (.var 2)) (.one 4) .nil [4, 5] (.rng1 (.var 0)) (.one 5) .nil [5]))
    .skip))
    (.seq (.ret (.var 2))
    .skip))), false⟩
/-- all_tables -/
def fn_395 : Fn := ⟨3, false, 4,
    (.seq (.expr (.call 394 (.cons (.var 0) (.cons (.var 1) (.cons (.var 2) .nil)))))
    (.seq (.ret (.blt1 .sorted (.comp (.blt1 .tuple (.call 26 (.cons (.var 0) (.cons (.var 1) (.cons (.var 3) .nil))))) (.seq (.call 376 (.cons (.var 1) (.cons (.var 2) .nil)))) (.one 3) .nil [3])))
    .skip)), false⟩
/-- cycle_lengths -/
def fn_396 : Fn := ⟨3, false, 7,
    (.seq (.expr (.call 394 (.cons (.var 0) (.cons (.var 1) (.cons (.var 2) .nil)))))
    (.seq (.set 3 (.xt .knew 0 .nil .nil))
    (.seq (.for_ (.one 4) (.seq (.call 376 (.cons (.var 1) (.cons (.var 2) .nil)))) (.seq (.set 5 (.idx (.comp (.var 6) (.rng2 (.int 1) (.op .add (.var 2) (.int 1))) (.one 6) (.cmp .eq (.op .add (.slice (.var 4) (.var 6) .nil) (.slice (.var 4) .nil (.var 6))) (.var 4)) [6]) (.int 0)))
    (.seq (.dkp 3 (.var 5) (.op .add (.xt .kgetd 3 (.var 5) (.int 0)) (.int 1)))
    .skip)))
    (.seq (.ret (.blt1 .tuple (.comp (.tup (.cons (.var 5) (.cons (.op .fdiv (.xt .kget 3 (.var 5) .nil) (.var 5)) .nil))) (.seq (.xt .kskeys 3 .nil .nil)) (.one 5) .nil [5])))
    .skip)))), false⟩
/-- ending -/
def fn_279 : Fn := ⟨3, false, 5,
    (.seq (.set 3 (.lst .nil))
    (.seq (.for_ (.one 4) (.seq (.call 276 (.cons (.var 2) (.cons (.var 1) .nil)))) (.seq (.ite (.not (.call 175 (.cons (.var 0) (.cons (.var 4) .nil)))) (.seq (.app 3 (.tup (.cons (.op .sub (.blt1 .len (.call 183 (.cons (.var 0) (.cons (.var 4) .nil)))) (.int 1)) (.cons (.var 4) .nil))))
    .skip) .skip)
    .skip))
    (.seq (.ret (.var 3))
    .skip))), false⟩
/-- longest_word -/
def fn_280 : Fn := ⟨3, false, 8,
    (.seq (.expr (.call 19 (.cons (.var 0) .nil)))
    (.seq (.expr (.call 202 (.cons (.var 1) .nil)))
    (.seq (.ite (.not (.call 1 (.cons (.var 2) (.cons (.int 1) (.cons (.int 100) .nil))))) (.seq .never
    .skip) .skip)
    (.seq (.set 3 (.call 279 (.cons (.var 0) (.cons (.var 1) (.cons (.var 2) .nil)))))
    (.seq (.ite (.cmp .eq (.var 3) (.lst .nil)) (.seq (.ret .non)
    .skip) .skip)
    (.seq (.set 4 (.blt1 .max (.comp (.idx (.var 5) (.int 0)) (.seq (.var 3)) (.one 5) .nil [5])))
    (.seq (.ret (.tup (.cons (.var 4) (.cons (.idx (.comp (.var 7) (.seq (.var 3)) (.many [6, 7]) (.cmp .eq (.var 6) (.var 4)) [6, 7]) (.int 0)) .nil))))
    .skip))))))), false⟩
/-- ending_counts -/
def fn_281 : Fn := ⟨3, false, 6,
    (.seq (.expr (.call 19 (.cons (.var 0) .nil)))
    (.seq (.ite (.not (.call 1 (.cons (.var 1) (.cons (.int 1) (.cons (.op .sub (.int 4) (.int 1)) .nil))))) (.seq .never
    .skip) .skip)
    (.seq (.ite (.not (.call 1 (.cons (.var 2) (.cons (.int 1) (.cons (.int 60) .nil))))) (.seq .never
    .skip) .skip)
    (.seq (.set 3 (.comp (.idx (.var 4) (.int 0)) (.seq (.call 279 (.cons (.var 0) (.cons (.var 1) (.cons (.var 2) .nil))))) (.one 4) .nil [4]))
    (.seq (.ret (.blt1 .tuple (.comp (.meth .count (.var 3) (.var 5)) (.rng1 (.op .add (.blt1 .max (.op .add (.var 3) (.lst (.cons (.neg (.int 1)) .nil)))) (.int 1))) (.one 5) .nil [5])))
    .skip))))), false⟩
/-- need_let -/
def fn_341 : Fn := ⟨1, false, 1,
    (.seq (.ite (.not (.call 1 (.cons (.var 0) (.cons (.int 0) (.cons (.int 12) .nil))))) (.seq .never
    .skip) .skip)
    .skip), false⟩
/-- need_bank -/
def fn_342 : Fn := ⟨3, false, 3,
    (.seq (.expr (.call 3 (.cons (.var 0) .nil)))
    (.seq (.expr (.call 4 (.cons (.var 0) (.cons (.var 1) .nil))))
    (.seq (.expr (.call 341 (.cons (.var 2) .nil)))
    .skip))), false⟩
/-- need_limit -/
def fn_351 : Fn := ⟨3, false, 3,
    (.seq (.expr (.call 3 (.cons (.var 0) .nil)))
    (.seq (.ite (.not (.call 1 (.cons (.var 1) (.cons (.int 0) (.cons (.int 1000000) .nil))))) (.seq .never
    .skip) .skip)
    (.seq (.expr (.call 341 (.cons (.var 2) .nil)))
    .skip))), false⟩
/-- floors_of -/
def fn_343 : Fn := ⟨3, false, 4,
    (.seq (.ret (.comp (.ife (.cmp .eq (.var 3) (.var 1)) .non (.neg (.var 2))) (.rng1 (.var 0)) (.one 3) .nil [3]))
    .skip), false⟩
/-- is_let -/
def fn_344 : Fn := ⟨2, false, 4,
    (.seq (.ret (.cmp .eq (.comp (.var 2) (.zip (.var 0) (.var 1)) (.many [2, 3]) (.and (.isnt (.var 3)) (.cmp .lt (.var 2) (.var 3))) [2, 3]) (.lst .nil)))
    .skip), false⟩
/-- counts_in -/
def fn_345 : Fn := ⟨4, false, 10,
    (.seq (.set 4 (.d1 (.var 1) (.int 1)))
    (.seq (.for_ (.one 5) (.rng1 (.var 3)) (.seq (.set 6 (.dx .new 0 .nil .nil))
    (.seq (.for_ (.one 7) (.dx .keys 4 .nil .nil) (.seq (.for_ (.one 8) (.rng1 (.blt1 .len (.var 1))) (.seq (.set 9 (.call 6 (.cons (.var 0) (.cons (.var 7) (.cons (.var 8) .nil)))))
    (.seq (.ite (.call 344 (.cons (.var 9) (.cons (.var 2) .nil))) (.seq (.dput 6 (.var 9) (.op .add (.dx .getd 6 (.var 9) (.int 0)) (.dx .get 4 (.var 7) .nil)))
    .skip) .skip)
    .skip)))
    .skip))
    (.seq (.mov 4 6)
    .skip))))
    (.seq (.ret (.var 4))
    .skip))), false⟩
/-- words_in_credit -/
def fn_346 : Fn := ⟨4, false, 11,
    (.seq (.ite (.cmp .gt (.vsum (.call 345 (.cons (.var 0) (.cons (.var 1) (.cons (.var 2) (.cons (.var 3) .nil)))))) (.int 2000)) (.seq .never
    .skip) .skip)
    (.seq (.set 4 (.lst (.cons (.tup (.cons (.tup .nil) (.cons (.var 1) .nil))) .nil)))
    (.seq (.for_ (.one 5) (.rng1 (.var 3)) (.seq (.set 6 (.lst .nil))
    (.seq (.for_ (.many [7, 8]) (.seq (.var 4)) (.seq (.for_ (.one 9) (.rng1 (.blt1 .len (.var 1))) (.seq (.set 10 (.call 6 (.cons (.var 0) (.cons (.var 8) (.cons (.var 9) .nil)))))
    (.seq (.ite (.call 344 (.cons (.var 10) (.cons (.var 2) .nil))) (.seq (.app 6 (.tup (.cons (.op .add (.var 7) (.tup (.cons (.var 9) .nil))) (.cons (.var 10) .nil))))
    .skip) .skip)
    .skip)))
    .skip))
    (.seq (.set 4 (.var 6))
    .skip))))
    (.seq (.ret (.comp (.var 7) (.seq (.var 4)) (.many [7, 8]) .nil [7, 8]))
    .skip)))), false⟩
/-- bank_count -/
def fn_347 : Fn := ⟨3, false, 3,
    (.seq (.expr (.call 342 (.cons (.var 0) (.cons (.var 1) (.cons (.var 2) .nil)))))
    (.seq (.ret (.vsum (.call 345 (.cons (.idx (.var 0) (.int 0)) (.cons (.idx (.var 0) (.int 1)) (.cons (.call 343 (.cons (.blt1 .len (.idx (.var 0) (.int 1))) (.cons (.var 1) (.cons (.int 0) .nil)))) (.cons (.var 2) .nil)))))))
    .skip)), false⟩
/-- bank_words -/
def fn_348 : Fn := ⟨3, false, 3,
    (.seq (.expr (.call 342 (.cons (.var 0) (.cons (.var 1) (.cons (.var 2) .nil)))))
    (.seq (.ret (.call 346 (.cons (.idx (.var 0) (.int 0)) (.cons (.idx (.var 0) (.int 1)) (.cons (.call 343 (.cons (.blt1 .len (.idx (.var 0) (.int 1))) (.cons (.var 1) (.cons (.int 0) .nil)))) (.cons (.var 2) .nil))))))
    .skip)), false⟩
/-- bank_least -/
def fn_349 : Fn := ⟨3, false, 5,
    (.seq (.expr (.call 342 (.cons (.var 0) (.cons (.var 1) (.cons (.var 2) .nil)))))
    (.seq (.set 3 (.comp (.idx (.var 4) (.var 1)) (.kys (.call 345 (.cons (.idx (.var 0) (.int 0)) (.cons (.idx (.var 0) (.int 1)) (.cons (.call 343 (.cons (.blt1 .len (.idx (.var 0) (.int 1))) (.cons (.var 1) (.cons (.int 0) .nil)))) (.cons (.var 2) .nil)))))) (.one 4) .nil [4]))
    (.seq (.ret (.tup (.cons (.blt1 .min (.var 3)) (.cons (.blt1 .max (.var 3)) .nil))))
    .skip))), false⟩
/-- limit_count -/
def fn_352 : Fn := ⟨3, false, 3,
    (.seq (.expr (.call 351 (.cons (.var 0) (.cons (.var 1) (.cons (.var 2) .nil)))))
    (.seq (.ret (.vsum (.call 345 (.cons (.idx (.var 0) (.int 0)) (.cons (.idx (.var 0) (.int 1)) (.cons (.call 343 (.cons (.blt1 .len (.idx (.var 0) (.int 1))) (.cons .non (.cons (.var 1) .nil)))) (.cons (.var 2) .nil)))))))
    .skip)), false⟩
/-- limit_words -/
def fn_353 : Fn := ⟨3, false, 3,
    (.seq (.expr (.call 351 (.cons (.var 0) (.cons (.var 1) (.cons (.var 2) .nil)))))
    (.seq (.ret (.call 346 (.cons (.idx (.var 0) (.int 0)) (.cons (.idx (.var 0) (.int 1)) (.cons (.call 343 (.cons (.blt1 .len (.idx (.var 0) (.int 1))) (.cons .non (.cons (.var 1) .nil)))) (.cons (.var 2) .nil))))))
    .skip)), false⟩
/-- least_limit -/
def fn_354 : Fn := ⟨2, false, 2,
    (.seq (.expr (.call 3 (.cons (.var 0) .nil)))
    (.seq (.expr (.call 21 (.cons (.blt1 .len (.idx (.var 0) (.int 1))) (.cons (.var 1) .nil))))
    (.seq (.ret (.blt2 .max (.int 0) (.neg (.blt1 .min (.call 30 (.cons (.idx (.var 0) (.int 0)) (.cons (.idx (.var 0) (.int 1)) (.cons (.var 1) .nil))))))))
    .skip))), false⟩
/-- need_pair -/
def fn_210 : Fn := ⟨2, false, 2,
    (.seq (.ite (.or (.not (.call 1 (.cons (.var 0) (.cons (.int 0) (.cons (.int 1000000) .nil))))) (.or (.not (.call 1 (.cons (.var 1) (.cons (.int 0) (.cons (.int 1000000) .nil))))) (.cmp .eq (.op .add (.var 0) (.var 1)) (.int 0)))) (.seq .never
    .skip) .skip)
    .skip), false⟩
/-- exponent -/
def fn_211 : Fn := ⟨1, false, 2,
    (.seq (.set 1 (.int 0))
    (.seq (.while_ (.cmp .eq (.op .mod (.var 0) (.int 2)) (.int 0)) (.seq (.par [0, 1] (.cons (.op .fdiv (.var 0) (.int 2)) (.cons (.op .add (.var 1) (.int 1)) .nil)))
    .skip))
    (.seq (.ret (.ife (.cmp .eq (.var 0) (.int 1)) (.var 1) .non))
    .skip))), false⟩
/-- pair_rounds -/
def fn_212 : Fn := ⟨2, false, 2,
    (.seq (.expr (.call 210 (.cons (.var 0) (.cons (.var 1) .nil))))
    (.seq (.ret (.call 211 (.cons (.op .fdiv (.op .add (.var 0) (.var 1)) (.call 77 (.cons (.var 0) (.cons (.var 1) .nil)))) .nil)))
    .skip)), false⟩
/-- pair_step -/
def fn_213 : Fn := ⟨2, false, 2,
    (.seq (.ite (.cmp .ge (.var 0) (.var 1)) (.seq (.ret (.tup (.cons (.int 0) (.cons (.op .sub (.var 0) (.var 1)) (.cons (.op .mul (.int 2) (.var 1)) .nil)))))
    .skip) .skip)
    (.seq (.ret (.tup (.cons (.int 1) (.cons (.op .mul (.int 2) (.var 0)) (.cons (.op .sub (.var 1) (.var 0)) .nil)))))
    .skip)), false⟩
/-- pair_word -/
def fn_214 : Fn := ⟨3, false, 6,
    (.seq (.expr (.call 210 (.cons (.var 0) (.cons (.var 1) .nil))))
    (.seq (.expr (.call 22 (.cons (.var 2) .nil)))
    (.seq (.set 3 (.lst .nil))
    (.seq (.for_ (.one 4) (.rng1 (.var 2)) (.seq (.unp [5, 0, 1] (.call 213 (.cons (.var 0) (.cons (.var 1) .nil))))
    (.seq (.app 3 (.var 5))
    .skip)))
    (.seq (.ret (.blt1 .tuple (.var 3)))
    .skip))))), false⟩
/-- left_of -/
def fn_215 : Fn := ⟨2, false, 5,
    (.seq (.par [2, 3, 4] (.cons (.op .mod (.int 1) (.var 1)) (.cons (.op .mod (.int 2) (.var 1)) (.cons (.var 0) .nil))))
    (.seq (.while_ (.cmp .gt (.var 4) (.int 0)) (.seq (.ite (.cmp .eq (.op .mod (.var 4) (.int 2)) (.int 1)) (.seq (.set 2 (.op .mod (.op .mul (.var 2) (.var 3)) (.var 1)))
    .skip) .skip)
    (.seq (.par [3, 4] (.cons (.op .mod (.op .mul (.var 3) (.var 3)) (.var 1)) (.cons (.op .fdiv (.var 4) (.int 2)) .nil)))
    .skip)))
    (.seq (.ret (.var 2))
    .skip))), false⟩
/-- pair_coins -/
def fn_216 : Fn := ⟨3, false, 8,
    (.seq (.expr (.call 210 (.cons (.var 0) (.cons (.var 1) .nil))))
    (.seq (.ite (.not (.call 1 (.cons (.var 2) (.cons (.int 0) (.cons (.int 1000000) .nil))))) (.seq .never
    .skip) .skip)
    (.seq (.par [3, 4] (.cons (.op .add (.var 0) (.var 1)) (.cons (.blt2 .min (.var 2) (.int 64)) .nil)))
    (.seq (.for_ (.one 5) (.rng1 (.var 4)) (.seq (.unp [6, 0, 1] (.call 213 (.cons (.var 0) (.cons (.var 1) .nil))))
    .skip))
    (.seq (.ite (.or (.cmp .eq (.var 2) (.var 4)) (.cmp .isin (.int 0) (.tup (.cons (.var 0) (.cons (.var 1) .nil))))) (.seq (.ret (.tup (.cons (.var 0) (.cons (.var 1) .nil))))
    .skip) .skip)
    (.seq (.set 7 (.op .mod (.op .mul (.var 0) (.call 215 (.cons (.op .sub (.var 2) (.var 4)) (.cons (.var 3) .nil)))) (.var 3)))
    (.seq (.ret (.tup (.cons (.var 7) (.cons (.op .sub (.var 3) (.var 7)) .nil))))
    .skip))))))), false⟩
/-- read_table -/
def fn_413 : Fn := ⟨1, false, 4,
    (.seq (.ite (.not (.isi (.var 0) .str)) (.seq .never
    .skip) .skip)
    (.seq (.mko 1 900406 (.var 0))
    (.seq (.expr (.callr 900412 1 (.cons (.str (Str.ofString "x")) .nil)))
    (.seq (.set 2 (.callr 900411 1 .nil))
    (.seq (.expr (.callr 900412 1 (.cons (.str (Str.ofString ":")) .nil)))
    (.seq (.set 3 (.callr 900410 1 .nil))
    (.seq (.ite (.cmp .eq (.blt1 .sum (.var 3)) (.int 0)) (.seq .never
    .skip) .skip)
    (.seq (.ret (.tup (.cons (.var 2) (.cons (.blt1 .tuple (.var 3)) .nil))))
    .skip)))))))), false⟩
/-- text_of -/
def fn_414 : Fn := ⟨2, false, 3,
    (.seq (.ret (.op .add (.op .add (.op .add (.str (Str.ofString "x")) (.blt1 .str (.var 0))) (.str (Str.ofString ":"))) (.xt .tjoin 0 (.str (Str.ofString "")) (.comp (.op .add (.str (Str.ofString " ")) (.blt1 .str (.var 2))) (.seq (.var 1)) (.one 2) .nil [2]))))
    .skip), false⟩
/-- picture_in -/
def fn_415 : Fn := ⟨2, false, 5,
    (.seq (.par [2, 3] (.cons (.lst .nil) (.cons (.idx (.var 0) (.int 1)) .nil)))
    (.seq (.for_ (.one 4) (.rng1 (.op .add (.var 1) (.int 1))) (.seq (.ite (.isnt (.var 3)) (.seq (.app 2 (.call 414 (.cons (.idx (.var 0) (.int 0)) (.cons (.var 3) .nil))))
    (.seq (.set 3 (.call 174 (.cons (.idx (.var 0) (.int 0)) (.cons (.var 3) .nil))))
    .skip)) .skip)
    .skip))
    (.seq (.ret (.blt1 .tuple (.var 2)))
    .skip))), false⟩
/-- picture -/
def fn_416 : Fn := ⟨2, false, 2,
    (.seq (.expr (.call 3 (.cons (.var 0) .nil)))
    (.seq (.expr (.call 22 (.cons (.var 1) .nil)))
    (.seq (.ret (.call 415 (.cons (.var 0) (.cons (.var 1) .nil))))
    .skip))), false⟩
/-- read_picture -/
def fn_417 : Fn := ⟨1, false, 2,
    (.seq (.ite (.or (.not (.isi (.var 0) .tuple)) (.or (.not (.chain .le .le (.int 1) (.blt1 .len (.var 0)) (.op .add (.int 40) (.int 1)))) (.not (.isi (.idx (.var 0) (.int 0)) .str)))) (.seq (.ret .non)
    .skip) .skip)
    (.seq (.trn (.seq (.set 1 (.call 413 (.cons (.idx (.var 0) (.int 0)) .nil)))
    .skip))
    (.seq (.ret (.ife (.cmp .eq (.call 415 (.cons (.var 1) (.cons (.op .sub (.blt1 .len (.var 0)) (.int 1)) .nil))) (.var 0)) (.var 1) .non))
    .skip))), false⟩
/-- need_tail -/
def fn_222 : Fn := ⟨4, false, 5,
    (.seq (.expr (.call 19 (.cons (.var 0) .nil)))
    (.seq (.expr (.call 20 (.cons (.var 1) .nil)))
    (.seq (.expr (.call 21 (.cons (.var 1) (.cons (.var 2) .nil))))
    (.seq (.ite (.or (.not (.isi (.var 3) .tuple)) (.not (.chain .le .le (.int 1) (.blt1 .len (.var 3)) (.int 40)))) (.seq .never
    .skip) .skip)
    (.seq (.ite (.cmp .ne (.comp (.var 4) (.seq (.var 3)) (.one 4) (.not (.call 1 (.cons (.var 4) (.cons (.int 0) (.cons (.op .sub (.var 1) (.int 1)) .nil))))) [4]) (.lst .nil)) (.seq .never
    .skip) .skip)
    .skip))))), false⟩
/-- shares_in -/
def fn_223 : Fn := ⟨4, false, 10,
    (.seq (.par [4, 5] (.cons (.call 25 (.cons (.var 0) (.cons (.blt1 .len (.var 2)) .nil))) (.cons (.op .sub (.call 25 (.cons (.var 0) (.cons (.blt1 .len (.var 3)) .nil))) (.int 1)) .nil)))
    (.seq (.par [6, 7] (.cons (.call 26 (.cons (.var 0) (.cons (.var 1) (.cons (.var 2) .nil)))) (.cons (.call 26 (.cons (.var 0) (.cons (.var 1) (.cons (.var 3) .nil)))) .nil)))
    (.seq (.ret (.comp (.call 78 (.cons (.op .add (.op .mul (.var 8) (.var 5)) (.var 9)) (.cons (.op .mul (.var 4) (.var 5)) .nil))) (.zip (.var 6) (.var 7)) (.many [8, 9]) .nil [8, 9]))
    .skip))), false⟩
/-- shares_of -/
def fn_230 : Fn := ⟨4, false, 4,
    (.seq (.expr (.call 222 (.cons (.var 0) (.cons (.var 1) (.cons (.var 2) (.cons (.var 3) .nil))))))
    (.seq (.ret (.blt1 .tuple (.call 223 (.cons (.var 0) (.cons (.var 1) (.cons (.var 2) (.cons (.var 3) .nil)))))))
    .skip)), false⟩
/-- least_of -/
def fn_224 : Fn := ⟨4, false, 7,
    (.seq (.expr (.call 222 (.cons (.var 0) (.cons (.var 1) (.cons (.var 2) (.cons (.var 3) .nil))))))
    (.seq (.par [4, 5] (.cons (.call 223 (.cons (.var 0) (.cons (.var 1) (.cons (.var 2) (.cons (.var 3) .nil))))) (.cons (.int 1) .nil)))
    (.seq (.for_ (.one 6) (.seq (.var 4)) (.seq (.set 5 (.op .fdiv (.op .mul (.var 5) (.idx (.var 6) (.int 1))) (.call 77 (.cons (.var 5) (.cons (.idx (.var 6) (.int 1)) .nil)))))
    .skip))
    (.seq (.ret (.blt1 .tuple (.comp (.op .mul (.idx (.var 6) (.int 0)) (.op .fdiv (.var 5) (.idx (.var 6) (.int 1)))) (.seq (.var 4)) (.one 6) .nil [6])))
    .skip)))), false⟩
/-- tail_in -/
def fn_225 : Fn := ⟨2, false, 9,
    (.seq (.unp [2, 3] (.call 180 (.cons (.var 0) (.cons (.var 1) .nil))))
    (.seq (.ite (.cmp .gt (.op .add (.var 2) (.var 3)) (.int 60)) (.seq .never
    .skip) .skip)
    (.seq (.set 4 (.call 189 (.cons (.var 0) (.cons (.var 1) (.cons (.op .add (.var 2) (.var 3)) .nil)))))
    (.seq (.par [5, 6] (.cons (.slice (.var 4) .nil (.var 2)) (.cons (.slice (.var 4) (.var 2) .nil) .nil)))
    (.seq (.set 7 (.idx (.comp (.var 8) (.rng2 (.int 1) (.op .add (.var 3) (.int 1))) (.one 8) (.and (.cmp .eq (.op .mod (.var 3) (.var 8)) (.int 0)) (.cmp .eq (.op .mul (.slice (.var 6) .nil (.var 8)) (.op .fdiv (.var 3) (.var 8))) (.var 6))) [8]) (.int 0)))
    (.seq (.set 6 (.slice (.var 6) .nil (.var 7)))
    (.seq (.while_ (.and (.cmp .ne (.var 5) (.lst .nil)) (.cmp .eq (.idx (.var 5) (.neg (.int 1))) (.idx (.var 6) (.neg (.int 1))))) (.seq (.par [5, 6] (.cons (.slice (.var 5) .nil (.neg (.int 1))) (.cons (.op .add (.slice (.var 6) (.neg (.int 1)) .nil) (.slice (.var 6) .nil (.neg (.int 1)))) .nil)))
    .skip))
    (.seq (.ret (.tup (.cons (.blt1 .tuple (.var 5)) (.cons (.blt1 .tuple (.var 6)) .nil))))
    .skip)))))))), false⟩
/-- tail_of -/
def fn_226 : Fn := ⟨1, false, 1,
    (.seq (.expr (.call 3 (.cons (.var 0) .nil)))
    (.seq (.ret (.ife (.call 175 (.cons (.idx (.var 0) (.int 0)) (.cons (.idx (.var 0) (.int 1)) .nil))) (.call 225 (.cons (.idx (.var 0) (.int 0)) (.cons (.idx (.var 0) (.int 1)) .nil))) .non))
    .skip)), false⟩
/-- need_like -/
def fn_227 : Fn := ⟨2, false, 2,
    (.seq (.expr (.call 3 (.cons (.var 0) .nil)))
    (.seq (.expr (.call 3 (.cons (.var 1) .nil)))
    (.seq (.ite (.or (.cmp .ne (.idx (.var 0) (.int 0)) (.idx (.var 1) (.int 0))) (.cmp .ne (.blt1 .len (.idx (.var 0) (.int 1))) (.blt1 .len (.idx (.var 1) (.int 1))))) (.seq .never
    .skip) .skip)
    .skip))), false⟩
/-- same_rounds -/
def fn_228 : Fn := ⟨2, false, 10,
    (.seq (.expr (.call 227 (.cons (.var 0) (.cons (.var 1) .nil))))
    (.seq (.par [2, 3, 4] (.cons (.idx (.var 0) (.int 0)) (.cons (.idx (.var 0) (.int 1)) (.cons (.idx (.var 1) (.int 1)) .nil))))
    (.seq (.ite (.and (.call 175 (.cons (.var 2) (.cons (.var 3) .nil))) (.call 175 (.cons (.var 2) (.cons (.var 4) .nil)))) (.seq (.ite (.cmp .eq (.comp (.op .mul (.var 8) (.blt1 .sum (.var 4))) (.seq (.var 3)) (.one 8) .nil [8]) (.comp (.op .mul (.var 9) (.blt1 .sum (.var 3))) (.seq (.var 4)) (.one 9) .nil [9])) (.seq (.ret .non)
    .skip) .skip)
    .skip) .skip)
    (.seq (.for_ (.one 5) (.rng1 (.op .add (.int 60) (.int 1))) (.seq (.par [6, 7] (.cons (.call 7 (.cons (.var 2) (.cons (.var 3) .nil))) (.cons (.call 7 (.cons (.var 2) (.cons (.var 4) .nil))) .nil)))
    (.seq (.ite (.or (.cmp .eq (.var 6) (.lst .nil)) (.or (.cmp .eq (.var 7) (.lst .nil)) (.cmp .ne (.idx (.var 6) (.int 0)) (.idx (.var 7) (.int 0))))) (.seq (.ret (.var 5))
    .skip) .skip)
    (.seq (.par [3, 4] (.cons (.call 174 (.cons (.var 2) (.cons (.var 3) .nil))) (.cons (.call 174 (.cons (.var 2) (.cons (.var 4) .nil))) .nil)))
    .skip))))
    (.seq .never
    .skip))))), false⟩
/-- write_word -/
def fn_418 : Fn := ⟨1, false, 4,
    (.seq (.expr (.call 21 (.cons (.int 6) (.cons (.var 0) .nil))))
    (.seq (.par [1, 2] (.cons (.lst .nil) (.cons (.int 0) .nil)))
    (.seq (.while_ (.cmp .lt (.var 2) (.blt1 .len (.var 0))) (.seq (.set 3 (.int 1))
    (.seq (.while_ (.and (.cmp .lt (.op .add (.var 2) (.var 3)) (.blt1 .len (.var 0))) (.cmp .eq (.idx (.var 0) (.op .add (.var 2) (.var 3))) (.idx (.var 0) (.var 2)))) (.seq (.aug 3 .add (.int 1))
    .skip))
    (.seq (.ite (.cmp .gt (.var 3) (.int 2)) (.seq (.app 1 (.op .add (.op .add (.blt1 .str (.var 3)) (.str (Str.ofString "*"))) (.blt1 .str (.idx (.var 0) (.var 2)))))
    .skip) (.seq (.set 1 (.op .add (.var 1) (.op .mul (.lst (.cons (.blt1 .str (.idx (.var 0) (.var 2))) .nil)) (.var 3))))
    .skip))
    (.seq (.aug 2 .add (.var 3))
    .skip)))))
    (.seq (.ret (.xt .tjoin 0 (.str (Str.ofString " ")) (.var 1)))
    .skip)))), false⟩
/-- is_payer -/
def fn_419 : Fn := ⟨1, false, 1,
    (.seq (.ret (.and (.cmp .ne (.var 0) (.str (Str.ofString ""))) (.and (.cmp .isin (.var 0) (.str (Str.ofString "0123456789"))) (.cmp .lt (.blt1 .int (.var 0)) (.int 6)))))
    .skip), false⟩
/-- read_part -/
def fn_421 : Fn := ⟨2, false, 4,
    (.seq (.par [2, 3] (.cons (.var 1) (.cons (.var 1) .nil)))
    (.seq (.while_ (.and (.cmp .ne (.slice (.var 0) (.var 3) (.op .add (.var 3) (.int 1))) (.str (Str.ofString ""))) (.cmp .isin (.slice (.var 0) (.var 3) (.op .add (.var 3) (.int 1))) (.str (Str.ofString "0123456789")))) (.seq (.aug 3 .add (.int 1))
    .skip))
    (.seq (.ite (.cmp .ne (.slice (.var 0) (.var 3) (.op .add (.var 3) (.int 1))) (.str (Str.ofString "*"))) (.seq (.ite (.not (.call 419 (.cons (.slice (.var 0) (.var 2) (.op .add (.var 2) (.int 1))) .nil))) (.seq .never
    .skip) .skip)
    (.seq (.ite (.cmp .notin (.slice (.var 0) (.op .add (.var 2) (.int 1)) (.op .add (.var 2) (.int 2))) (.tup (.cons (.str (Str.ofString "")) (.cons (.str (Str.ofString " ")) .nil)))) (.seq .never
    .skip) .skip)
    (.seq (.ret (.tup (.cons (.blt1 .int (.idx (.var 0) (.var 2))) (.cons (.int 1) (.cons (.op .add (.var 2) (.int 1)) .nil)))))
    .skip))) .skip)
    (.seq (.ret (.call 420 (.cons (.var 0) (.cons (.var 2) (.cons (.var 3) .nil)))))
    .skip)))), false⟩
/-- read_times -/
def fn_420 : Fn := ⟨3, false, 3,
    (.seq (.ite (.cmp .eq (.var 1) (.var 2)) (.seq .never
    .skip) .skip)
    (.seq (.ite (.or (.cmp .eq (.idx (.var 0) (.var 1)) (.str (Str.ofString "0"))) (.cmp .gt (.op .sub (.var 2) (.var 1)) (.blt1 .len (.blt1 .str (.int 40))))) (.seq .never
    .skip) .skip)
    (.seq (.ite (.not (.chain .le .le (.int 2) (.blt1 .int (.slice (.var 0) (.var 1) (.var 2))) (.int 40))) (.seq .never
    .skip) .skip)
    (.seq (.ite (.not (.call 419 (.cons (.slice (.var 0) (.op .add (.var 2) (.int 1)) (.op .add (.var 2) (.int 2))) .nil))) (.seq .never
    .skip) .skip)
    (.seq (.ite (.cmp .notin (.slice (.var 0) (.op .add (.var 2) (.int 2)) (.op .add (.var 2) (.int 3))) (.tup (.cons (.str (Str.ofString "")) (.cons (.str (Str.ofString " ")) .nil)))) (.seq .never
    .skip) .skip)
    (.seq (.ret (.tup (.cons (.blt1 .int (.idx (.var 0) (.op .add (.var 2) (.int 1)))) (.cons (.blt1 .int (.slice (.var 0) (.var 1) (.var 2))) (.cons (.op .add (.var 2) (.int 2)) .nil)))))
    .skip)))))), false⟩
/-- read_word -/
def fn_422 : Fn := ⟨1, false, 6,
    (.seq (.ite (.not (.isi (.var 0) .str)) (.seq .never
    .skip) .skip)
    (.seq (.par [1, 2] (.cons (.lst .nil) (.cons (.int 0) .nil)))
    (.seq (.while_ (.cmp .lt (.var 2) (.blt1 .len (.var 0))) (.seq (.ite (.cmp .eq (.idx (.var 0) (.var 2)) (.str (Str.ofString " "))) (.seq (.aug 2 .add (.int 1))
    .skip) (.seq (.set 3 (.var 2))
    (.seq (.unp [4, 5, 2] (.call 421 (.cons (.var 0) (.cons (.var 2) .nil))))
    (.seq (.set 1 (.op .add (.var 1) (.op .mul (.lst (.cons (.var 4) .nil)) (.var 5))))
    (.seq (.ite (.cmp .gt (.blt1 .len (.var 1)) (.int 40)) (.seq .never
    .skip) .skip)
    .skip)))))
    .skip))
    (.seq (.ret (.blt1 .tuple (.var 1)))
    .skip)))), false⟩
/-- _law_alike -/
def fn_17 : Fn := ⟨2, false, 3,
    (.seq (.ite (.isi2 (.var 1) .tuple .list) (.seq (.ite (.or (.not (.isi2 (.var 0) .tuple .list)) (.cmp .ne (.isi (.var 0) .list) (.isi (.var 1) .list))) (.seq (.ret (.bl false))
    .skip) .skip)
    (.seq (.ite (.cmp .ne (.blt1 .len (.var 0)) (.blt1 .len (.var 1))) (.seq (.ret (.bl false))
    .skip) .skip)
    (.seq (.ret (.cmp .eq (.comp (.var 2) (.rng1 (.blt1 .len (.var 1))) (.one 2) (.not (.call 17 (.cons (.idx (.var 0) (.var 2)) (.cons (.idx (.var 1) (.var 2)) .nil)))) [2]) (.lst .nil)))
    .skip))) .skip)
    (.seq (.ite (.or (.isn (.var 1)) (.isi (.var 1) .str)) (.seq (.ret (.and (.cmp .eq (.var 0) (.var 1)) (.cmp .eq (.isi (.var 0) .str) (.isi (.var 1) .str))))
    .skip) .skip)
    (.seq (.ret (.and (.isi (.var 0) .int) (.and (.cmp .eq (.isi (.var 0) .bool) (.isi (.var 1) .bool)) (.cmp .eq (.var 0) (.var 1)))))
    .skip))), false⟩
/-- law -/
def fn_423 : Fn := ⟨1, false, 4,
    (.seq (.set 1 (.lst (.cons (.var 0) (.cons (.int 0) (.cons (.int 9866) (.cons (.int 0) .nil))))))
    (.seq (.set 2 (.lst (.cons (.call 212 (.cons (.int 3) (.cons (.int 1) .nil))) (.cons (.call 212 (.cons (.int 2) (.cons (.int 1) .nil))) (.cons (.call 212 (.cons (.int 0) (.cons (.int 5) .nil))) (.cons (.call 214 (.cons (.int 3) (.cons (.int 1) (.cons (.int 3) .nil)))) .nil))))))
    (.seq (.set 2 (.op .add (.var 2) (.lst (.cons (.call 216 (.cons (.int 2) (.cons (.int 1) (.cons (.int 1000000) .nil)))) (.cons (.call 216 (.cons (.int 3) (.cons (.int 1) (.cons (.int 2) .nil)))) .nil)))))
    (.seq (.ite (.not (.call 17 (.cons (.var 2) (.cons (.lst (.cons (.int 2) (.cons .non (.cons (.int 0) (.cons (.tup (.cons (.int 0) (.cons (.int 0) (.cons (.int 1) .nil)))) (.cons (.tup (.cons (.int 2) (.cons (.int 1) .nil))) (.cons (.tup (.cons (.int 0) (.cons (.int 4) .nil))) .nil))))))) .nil)))) (.seq (.ret (.bl false))
    .skip) .skip)
    (.seq (.set 2 (.lst (.cons (.call 395 (.cons (.int 2) (.cons (.int 2) (.cons (.int 2) .nil)))) (.cons (.call 396 (.cons (.int 2) (.cons (.int 2) (.cons (.int 2) .nil)))) (.cons (.call 280 (.cons (.int 2) (.cons (.int 3) (.cons (.int 3) .nil)))) (.cons (.call 280 (.cons (.int 2) (.cons (.int 2) (.cons (.int 5) .nil)))) .nil))))))
    (.seq (.set 2 (.op .add (.var 2) (.lst (.cons (.call 281 (.cons (.int 2) (.cons (.int 3) (.cons (.int 3) .nil)))) .nil))))
    (.seq (.ite (.not (.call 17 (.cons (.var 2) (.cons (.lst (.cons (.lst (.cons (.tup (.cons (.int 0) (.cons (.int 3) .nil))) (.cons (.tup (.cons (.int 1) (.cons (.int 2) .nil))) (.cons (.tup (.cons (.int 2) (.cons (.int 1) .nil))) (.cons (.tup (.cons (.int 3) (.cons (.int 0) .nil))) .nil))))) (.cons (.tup (.cons (.tup (.cons (.int 1) (.cons (.int 2) .nil))) (.cons (.tup (.cons (.int 2) (.cons (.int 1) .nil))) .nil))) (.cons (.tup (.cons (.int 0) (.cons (.tup (.cons (.int 1) (.cons (.int 1) (.cons (.int 1) .nil)))) .nil))) (.cons .non (.cons (.tup (.cons (.int 1) .nil)) .nil)))))) .nil)))) (.seq (.ret (.bl false))
    .skip) .skip)
    (.seq (.set 3 (.tup (.cons (.int 2) (.cons (.tup (.cons (.int 4) (.cons (.int 2) (.cons (.int 1) .nil)))) .nil))))
    (.seq (.set 2 (.lst (.cons (.call 123 (.cons (.var 3) (.cons (.int 2) .nil))) (.cons (.call 124 (.cons (.var 3) (.cons (.tup (.cons (.int 1) (.cons (.int 1) .nil))) .nil))) (.cons (.call 125 (.cons (.var 3) (.cons (.tup (.cons (.int 1) .nil)) .nil))) (.cons (.call 127 (.cons (.var 3) (.cons (.tup (.cons (.int 0) (.cons (.int 1) .nil))) .nil))) .nil))))))
    (.seq (.set 2 (.op .add (.var 2) (.lst (.cons (.call 128 (.cons (.var 3) (.cons (.tup (.cons (.int 0) (.cons (.int 1) .nil))) .nil))) (.cons (.call 286 (.cons (.tup (.cons (.int 2) (.cons (.tup (.cons (.int 2) (.cons (.int 1) .nil))) .nil))) (.cons (.int 1) .nil))) .nil)))))
    (.seq (.ite (.not (.call 17 (.cons (.var 2) (.cons (.lst (.cons (.int 6) (.cons (.tup (.cons (.int 5) (.cons (.int 10) .nil))) (.cons (.tup (.cons (.int 4) (.cons (.neg (.int 5)) (.cons (.int 1) .nil)))) (.cons (.tup (.cons (.int 3) (.cons (.int 3) (.cons (.int 0) .nil)))) (.cons (.tup (.cons (.int 1) (.cons (.int 2) (.cons (.int 3) .nil)))) (.cons (.tup (.cons (.int 2) (.cons (.tup (.cons (.int 1) .nil)) .nil))) .nil))))))) .nil)))) (.seq (.ret (.bl false))
    .skip) .skip)
    (.seq (.set 2 (.lst (.cons (.call 219 (.cons (.var 3) (.cons (.int 4) .nil))) (.cons (.call 220 (.cons (.var 3) (.cons (.int 4) .nil))) (.cons (.call 416 (.cons (.var 3) (.cons (.int 1) .nil))) .nil)))))
    (.seq (.set 2 (.op .add (.var 2) (.lst (.cons (.call 417 (.cons (.tup (.cons (.str (Str.ofString "x2: 4 2 1")) (.cons (.str (Str.ofString "x2: 1 4 2")) .nil))) .nil)) (.cons (.call 417 (.cons (.tup (.cons (.str (Str.ofString "x2: 4 2 1")) (.cons (.str (Str.ofString "x2: 1 4 3")) .nil))) .nil)) .nil)))))
    (.seq (.ite (.not (.call 17 (.cons (.var 2) (.cons (.lst (.cons (.tup (.cons (.int 0) (.cons (.int 1) (.cons (.int 2) .nil)))) (.cons (.tup (.cons (.int 2) (.cons (.int 1) (.cons (.int 1) .nil)))) (.cons (.tup (.cons (.str (Str.ofString "x2: 4 2 1")) (.cons (.str (Str.ofString "x2: 1 4 2")) .nil))) (.cons (.var 3) (.cons .non .nil)))))) .nil)))) (.seq (.ret (.bl false))
    .skip) .skip)
    (.seq (.set 2 (.lst (.cons (.call 347 (.cons (.tup (.cons (.int 2) (.cons (.tup (.cons (.int 2) (.cons (.int 1) .nil))) .nil))) (.cons (.int 0) (.cons (.int 2) .nil)))) (.cons (.call 348 (.cons (.tup (.cons (.int 2) (.cons (.tup (.cons (.int 2) (.cons (.int 1) .nil))) .nil))) (.cons (.int 0) (.cons (.int 2) .nil)))) (.cons (.call 349 (.cons (.tup (.cons (.int 2) (.cons (.tup (.cons (.int 2) (.cons (.int 1) .nil))) .nil))) (.cons (.int 0) (.cons (.int 2) .nil)))) .nil)))))
    (.seq (.set 2 (.op .add (.var 2) (.lst (.cons (.call 352 (.cons (.tup (.cons (.int 2) (.cons (.tup (.cons (.int 2) (.cons (.int 1) .nil))) .nil))) (.cons (.int 1) (.cons (.int 1) .nil)))) (.cons (.call 353 (.cons (.tup (.cons (.int 2) (.cons (.tup (.cons (.int 2) (.cons (.int 1) .nil))) .nil))) (.cons (.int 1) (.cons (.int 1) .nil)))) .nil)))))
    (.seq (.ite (.not (.call 17 (.cons (.var 2) (.cons (.lst (.cons (.int 2) (.cons (.lst (.cons (.tup (.cons (.int 0) (.cons (.int 0) .nil))) (.cons (.tup (.cons (.int 0) (.cons (.int 1) .nil))) .nil))) (.cons (.tup (.cons (.neg (.int 1)) (.cons (.int 2) .nil))) (.cons (.int 2) (.cons (.lst (.cons (.tup (.cons (.int 0) .nil)) (.cons (.tup (.cons (.int 1) .nil)) .nil))) .nil)))))) .nil)))) (.seq (.ret (.bl false))
    .skip) .skip)
    (.seq (.set 2 (.lst (.cons (.call 354 (.cons (.tup (.cons (.int 2) (.cons (.tup (.cons (.int 2) (.cons (.int 1) .nil))) .nil))) (.cons (.tup (.cons (.int 1) (.cons (.int 1) .nil))) .nil))) (.cons (.call 230 (.cons (.int 2) (.cons (.int 2) (.cons (.tup (.cons (.int 0) .nil)) (.cons (.tup (.cons (.int 1) .nil)) .nil))))) (.cons (.call 224 (.cons (.int 2) (.cons (.int 3) (.cons (.tup .nil) (.cons (.tup (.cons (.int 0) (.cons (.int 1) (.cons (.int 2) .nil)))) .nil))))) .nil)))))
    (.seq (.set 2 (.op .add (.var 2) (.lst (.cons (.call 226 (.cons (.var 3) .nil)) (.cons (.call 226 (.cons (.tup (.cons (.int 2) (.cons (.tup (.cons (.int 3) (.cons (.int 1) .nil))) .nil))) .nil)) (.cons (.call 226 (.cons (.tup (.cons (.int 2) (.cons (.tup (.cons (.int 1) (.cons (.int 1) (.cons (.int 1) .nil)))) .nil))) .nil)) .nil))))))
    (.seq (.ite (.not (.call 17 (.cons (.var 2) (.cons (.lst (.cons (.int 5) (.cons (.tup (.cons (.tup (.cons (.int 1) (.cons (.int 2) .nil))) (.cons (.tup (.cons (.int 1) (.cons (.int 2) .nil))) .nil))) (.cons (.tup (.cons (.int 4) (.cons (.int 2) (.cons (.int 1) .nil)))) (.cons (.tup (.cons (.tup .nil) (.cons (.tup (.cons (.int 0) (.cons (.int 1) (.cons (.int 2) .nil)))) .nil))) (.cons (.tup (.cons (.tup (.cons (.int 0) (.cons (.int 0) .nil))) (.cons (.tup (.cons (.int 1) .nil)) .nil))) (.cons .non .nil))))))) .nil)))) (.seq (.ret (.bl false))
    .skip) .skip)
    (.seq (.set 2 (.lst (.cons (.call 228 (.cons (.var 3) (.cons (.tup (.cons (.int 2) (.cons (.tup (.cons (.int 8) (.cons (.int 4) (.cons (.int 2) .nil)))) .nil))) .nil))) (.cons (.call 228 (.cons (.var 3) (.cons (.tup (.cons (.int 2) (.cons (.tup (.cons (.int 4) (.cons (.int 1) (.cons (.int 2) .nil)))) .nil))) .nil))) .nil))))
    (.seq (.set 2 (.op .add (.var 2) (.lst (.cons (.call 418 (.cons (.tup (.cons (.int 0) (.cons (.int 2) (.cons (.int 2) (.cons (.int 2) (.cons (.int 1) (.cons (.int 1) .nil))))))) .nil)) (.cons (.call 422 (.cons (.str (Str.ofString " 3*2 1 ")) .nil)) (.cons (.call 418 (.cons (.tup .nil) .nil)) .nil))))))
    (.seq (.ret (.call 17 (.cons (.var 2) (.cons (.lst (.cons .non (.cons (.int 1) (.cons (.str (Str.ofString "0 3*2 1 1")) (.cons (.tup (.cons (.int 2) (.cons (.int 2) (.cons (.int 2) (.cons (.int 1) .nil))))) (.cons (.str (Str.ofString "")) .nil)))))) .nil))))
    .skip))))))))))))))))))))))), false⟩
/-- Reader.__init__ -/
def fn_900406 : Fn := ⟨2, true, 2,
    (.seq (.fset 0 (Str.ofString "text") (.var 1))
    (.seq (.fset 0 (Str.ofString "at") (.int 0))
    .skip)), true⟩
/-- Reader.sign -/
def fn_900407 : Fn := ⟨1, true, 1,
    (.seq (.ret (.slice (.xt .fget 0 (.str (Str.ofString "text")) .nil) (.xt .fget 0 (.str (Str.ofString "at")) .nil) (.op .add (.xt .fget 0 (.str (Str.ofString "at")) .nil) (.int 1))))
    .skip), true⟩
/-- Reader.skip -/
def fn_900409 : Fn := ⟨1, true, 1,
    (.seq (.while_ (.cmp .eq (.callr 900407 0 .nil) (.str (Str.ofString " "))) (.seq (.faug 0 (Str.ofString "at") .add (.int 1))
    .skip))
    (.seq (.ret (.callr 900407 0 .nil))
    .skip)), true⟩
/-- Reader.take -/
def fn_900412 : Fn := ⟨2, true, 2,
    (.seq (.ite (.cmp .ne (.callr 900409 0 .nil) (.var 1)) (.seq .never
    .skip) .skip)
    (.seq (.faug 0 (Str.ofString "at") .add (.int 1))
    .skip)), true⟩
/-- Reader.factor -/
def fn_900411 : Fn := ⟨1, true, 2,
    (.seq (.set 1 (.callr 900409 0 .nil))
    (.seq (.ite (.or (.cmp .eq (.var 1) (.str (Str.ofString ""))) (.or (.cmp .notin (.var 1) (.str (Str.ofString "0123456789"))) (.not (.call 2 (.cons (.blt1 .int (.var 1)) .nil))))) (.seq .never
    .skip) .skip)
    (.seq (.faug 0 (Str.ofString "at") .add (.int 1))
    (.seq (.ret (.blt1 .int (.var 1)))
    .skip)))), true⟩
/-- Reader.number -/
def fn_900408 : Fn := ⟨1, true, 3,
    (.seq (.set 1 (.xt .fget 0 (.str (Str.ofString "at")) .nil))
    (.seq (.ite (.or (.cmp .eq (.callr 900407 0 .nil) (.str (Str.ofString ""))) (.cmp .notin (.callr 900407 0 .nil) (.str (Str.ofString "0123456789")))) (.seq .never
    .skip) .skip)
    (.seq (.ite (.cmp .eq (.callr 900407 0 .nil) (.str (Str.ofString "0"))) (.seq (.faug 0 (Str.ofString "at") .add (.int 1))
    .skip) (.seq (.while_ (.and (.cmp .ne (.callr 900407 0 .nil) (.str (Str.ofString ""))) (.cmp .isin (.callr 900407 0 .nil) (.str (Str.ofString "0123456789")))) (.seq (.faug 0 (Str.ofString "at") .add (.int 1))
    .skip))
    .skip))
    (.seq (.ite (.cmp .notin (.callr 900407 0 .nil) (.tup (.cons (.str (Str.ofString "")) (.cons (.str (Str.ofString " ")) .nil)))) (.seq .never
    .skip) .skip)
    (.seq (.ite (.cmp .gt (.op .sub (.xt .fget 0 (.str (Str.ofString "at")) .nil) (.var 1)) (.blt1 .len (.blt1 .str (.int 1000000)))) (.seq .never
    .skip) .skip)
    (.seq (.set 2 (.blt1 .int (.slice (.xt .fget 0 (.str (Str.ofString "text")) .nil) (.var 1) (.xt .fget 0 (.str (Str.ofString "at")) .nil))))
    (.seq (.ite (.cmp .gt (.var 2) (.int 1000000)) (.seq .never
    .skip) .skip)
    (.seq (.ret (.var 2))
    .skip)))))))), true⟩
/-- Reader.all_coins -/
def fn_900410 : Fn := ⟨1, true, 2,
    (.seq (.set 1 (.lst .nil))
    (.seq (.while_ (.or (.cme 1) (.cmp .ne (.callr 900409 0 .nil) (.str (Str.ofString "")))) (.seq (.expr (.callr 900409 0 .nil))
    (.seq (.ite (.cmp .eq (.blt1 .len (.var 1)) (.int 6)) (.seq .never
    .skip) .skip)
    (.seq (.app 1 (.callr 900408 0 .nil))
    .skip))))
    (.seq (.ret (.var 1))
    .skip))), true⟩
def en_900406 : Ent := ⟨900406, Str.ofString "__init__", Str.ofString "Reader.__init__", mS 107 0, [Str.ofString "self", Str.ofString "text"], fn_900406⟩
def en_900407 : Ent := ⟨900407, Str.ofString "sign", Str.ofString "Reader.sign", mS 107 1, [Str.ofString "self"], fn_900407⟩
def en_900409 : Ent := ⟨900409, Str.ofString "skip", Str.ofString "Reader.skip", mS 107 2, [Str.ofString "self"], fn_900409⟩
def en_900412 : Ent := ⟨900412, Str.ofString "take", Str.ofString "Reader.take", mS 107 3, [Str.ofString "self", Str.ofString "wanted"], fn_900412⟩
def en_900411 : Ent := ⟨900411, Str.ofString "factor", Str.ofString "Reader.factor", mS 107 4, [Str.ofString "self", Str.ofString "sign"], fn_900411⟩
def en_900408 : Ent := ⟨900408, Str.ofString "number", Str.ofString "Reader.number", mS 107 5, [Str.ofString "self", Str.ofString "begin", Str.ofString "found"], fn_900408⟩
def en_900410 : Ent := ⟨900410, Str.ofString "all_coins", Str.ofString "Reader.all_coins", mS 107 6, [Str.ofString "self", Str.ofString "found"], fn_900410⟩
def en_1 : Ent := ⟨1, Str.ofString "is_in", Str.ofString "is_in", topS 16, [Str.ofString "value", Str.ofString "least", Str.ofString "most"], fn_1⟩
def en_77 : Ent := ⟨77, Str.ofString "gcd", Str.ofString "gcd", topS 17, [Str.ofString "one", Str.ofString "other"], fn_77⟩
def en_78 : Ent := ⟨78, Str.ofString "reduced", Str.ofString "reduced", topS 18, [Str.ofString "numerator", Str.ofString "denominator", Str.ofString "common"], fn_78⟩
def en_2 : Ent := ⟨2, Str.ofString "is_factor", Str.ofString "is_factor", topS 24, [Str.ofString "value"], fn_2⟩
def en_3 : Ent := ⟨3, Str.ofString "need_table", Str.ofString "need_table", topS 25, [Str.ofString "table", Str.ofString "index", Str.ofString "one"], fn_3⟩
def en_4 : Ent := ⟨4, Str.ofString "need_player", Str.ofString "need_player", topS 26, [Str.ofString "table", Str.ofString "player"], fn_4⟩
def en_6 : Ent := ⟨6, Str.ofString "owed_in", Str.ofString "owed_in", topS 27, [Str.ofString "factor", Str.ofString "coins", Str.ofString "player", Str.ofString "found", Str.ofString "one"], fn_6⟩
def en_7 : Ent := ⟨7, Str.ofString "payers_in", Str.ofString "payers_in", topS 28, [Str.ofString "factor", Str.ofString "coins", Str.ofString "k"], fn_7⟩
def en_19 : Ent := ⟨19, Str.ofString "need_factor", Str.ofString "need_factor", topS 31, [Str.ofString "factor"], fn_19⟩
def en_20 : Ent := ⟨20, Str.ofString "need_players", Str.ofString "need_players", topS 32, [Str.ofString "players"], fn_20⟩
def en_21 : Ent := ⟨21, Str.ofString "need_word", Str.ofString "need_word", topS 33, [Str.ofString "players", Str.ofString "word", Str.ofString "one"], fn_21⟩
def en_22 : Ent := ⟨22, Str.ofString "need_rounds", Str.ofString "need_rounds", topS 34, [Str.ofString "many"], fn_22⟩
def en_25 : Ent := ⟨25, Str.ofString "power", Str.ofString "power", topS 35, [Str.ofString "factor", Str.ofString "many", Str.ofString "found", Str.ofString "k"], fn_25⟩
def en_26 : Ent := ⟨26, Str.ofString "numbers_in", Str.ofString "numbers_in", topS 36, [Str.ofString "factor", Str.ofString "players", Str.ofString "word", Str.ofString "found", Str.ofString "payer", Str.ofString "one"], fn_26⟩
def en_30 : Ent := ⟨30, Str.ofString "after_in", Str.ofString "after_in", topS 37, [Str.ofString "factor", Str.ofString "coins", Str.ofString "word", Str.ofString "size", Str.ofString "total", Str.ofString "one", Str.ofString "number"], fn_30⟩
def en_37 : Ent := ⟨37, Str.ofString "payable_in", Str.ofString "payable_in", topS 38, [Str.ofString "table", Str.ofString "many", Str.ofString "rows", Str.ofString "turn", Str.ofString "more", Str.ofString "word", Str.ofString "coins", Str.ofString "payer"], fn_37⟩
def en_119 : Ent := ⟨119, Str.ofString "need_both", Str.ofString "need_both", topS 41, [Str.ofString "table", Str.ofString "word"], fn_119⟩
def en_120 : Ent := ⟨120, Str.ofString "line_of", Str.ofString "line_of", topS 42, [Str.ofString "table", Str.ofString "word", Str.ofString "found", Str.ofString "here", Str.ofString "payer"], fn_120⟩
def en_121 : Ent := ⟨121, Str.ofString "moved_along", Str.ofString "moved_along", topS 43, [Str.ofString "table", Str.ofString "word", Str.ofString "total", Str.ofString "coins", Str.ofString "payer"], fn_121⟩
def en_122 : Ent := ⟨122, Str.ofString "word_in", Str.ofString "word_in", topS 44, [Str.ofString "table", Str.ofString "many", Str.ofString "some"], fn_122⟩
def en_123 : Ent := ⟨123, Str.ofString "moved_in", Str.ofString "moved_in", topS 45, [Str.ofString "table", Str.ofString "many", Str.ofString "word"], fn_123⟩
def en_124 : Ent := ⟨124, Str.ofString "moved_word", Str.ofString "moved_word", topS 46, [Str.ofString "table", Str.ofString "word"], fn_124⟩
def en_125 : Ent := ⟨125, Str.ofString "gains", Str.ofString "gains", topS 47, [Str.ofString "table", Str.ofString "word", Str.ofString "one", Str.ofString "other"], fn_125⟩
def en_127 : Ent := ⟨127, Str.ofString "handed", Str.ofString "handed", topS 48, [Str.ofString "table", Str.ofString "word", Str.ofString "found", Str.ofString "payer", Str.ofString "coins"], fn_127⟩
def en_128 : Ent := ⟨128, Str.ofString "taken", Str.ofString "taken", topS 49, [Str.ofString "table", Str.ofString "word", Str.ofString "found", Str.ofString "payer", Str.ofString "coins", Str.ofString "k", Str.ofString "one"], fn_128⟩
def en_286 : Ent := ⟨286, Str.ofString "most_moved", Str.ofString "most_moved", topS 50, [Str.ofString "table", Str.ofString "many", Str.ofString "words", Str.ofString "turn", Str.ofString "best", Str.ofString "word", Str.ofString "payer"], fn_286⟩
def en_219 : Ent := ⟨219, Str.ofString "payer_order", Str.ofString "payer_order", topS 51, [Str.ofString "table", Str.ofString "many", Str.ofString "word", Str.ofString "at", Str.ofString "payer"], fn_219⟩
def en_220 : Ent := ⟨220, Str.ofString "times_paid", Str.ofString "times_paid", topS 52, [Str.ofString "table", Str.ofString "many", Str.ofString "word", Str.ofString "k"], fn_220⟩
def en_173 : Ent := ⟨173, Str.ofString "shared", Str.ofString "shared", topS 54, [Str.ofString "coins", Str.ofString "found", Str.ofString "one"], fn_173⟩
def en_174 : Ent := ⟨174, Str.ofString "step", Str.ofString "step", topS 55, [Str.ofString "factor", Str.ofString "coins", Str.ofString "some"], fn_174⟩
def en_175 : Ent := ⟨175, Str.ofString "forever_in", Str.ofString "forever_in", topS 56, [Str.ofString "factor", Str.ofString "coins", Str.ofString "here", Str.ofString "seen", Str.ofString "one"], fn_175⟩
def en_183 : Ent := ⟨183, Str.ofString "line", Str.ofString "line", topS 57, [Str.ofString "factor", Str.ofString "coins", Str.ofString "found", Str.ofString "here"], fn_183⟩
def en_177 : Ent := ⟨177, Str.ofString "split", Str.ofString "split", topS 58, [Str.ofString "factor", Str.ofString "total", Str.ofString "rest", Str.ofString "ahead"], fn_177⟩
def en_178 : Ent := ⟨178, Str.ofString "order_of", Str.ofString "order_of", topS 59, [Str.ofString "factor", Str.ofString "rest", Str.ofString "found", Str.ofString "here"], fn_178⟩
def en_180 : Ent := ⟨180, Str.ofString "period_in", Str.ofString "period_in", topS 60, [Str.ofString "factor", Str.ofString "coins", Str.ofString "ahead", Str.ofString "rest"], fn_180⟩
def en_189 : Ent := ⟨189, Str.ofString "payers_along", Str.ofString "payers_along", topS 61, [Str.ofString "factor", Str.ofString "coins", Str.ofString "many", Str.ofString "found", Str.ofString "here", Str.ofString "turn"], fn_189⟩
def en_276 : Ent := ⟨276, Str.ofString "shares", Str.ofString "shares", topS 65, [Str.ofString "total", Str.ofString "players", Str.ofString "one", Str.ofString "rest"], fn_276⟩
def en_202 : Ent := ⟨202, Str.ofString "need_few", Str.ofString "need_few", topS 66, [Str.ofString "players"], fn_202⟩
def en_394 : Ent := ⟨394, Str.ofString "need_words", Str.ofString "need_words", topS 71, [Str.ofString "factor", Str.ofString "players", Str.ofString "many"], fn_394⟩
def en_376 : Ent := ⟨376, Str.ofString "words_in_allwords", Str.ofString "words_in", topS 72, [Str.ofString "players", Str.ofString "many", Str.ofString "found", Str.ofString "turn", Str.ofString "word", Str.ofString "payer"], fn_376⟩
def en_395 : Ent := ⟨395, Str.ofString "all_tables", Str.ofString "all_tables", topS 74, [Str.ofString "factor", Str.ofString "players", Str.ofString "many", Str.ofString "word"], fn_395⟩
def en_396 : Ent := ⟨396, Str.ofString "cycle_lengths", Str.ofString "cycle_lengths", topS 75, [Str.ofString "factor", Str.ofString "players", Str.ofString "many", Str.ofString "counts", Str.ofString "word", Str.ofString "length", Str.ofString "size"], fn_396⟩
def en_279 : Ent := ⟨279, Str.ofString "ending", Str.ofString "ending", topS 76, [Str.ofString "factor", Str.ofString "players", Str.ofString "whole", Str.ofString "found", Str.ofString "coins"], fn_279⟩
def en_280 : Ent := ⟨280, Str.ofString "longest_word", Str.ofString "longest_word", topS 77, [Str.ofString "factor", Str.ofString "players", Str.ofString "whole", Str.ofString "some", Str.ofString "most", Str.ofString "one", Str.ofString "many", Str.ofString "coins"], fn_280⟩
def en_281 : Ent := ⟨281, Str.ofString "ending_counts", Str.ofString "ending_counts", topS 78, [Str.ofString "factor", Str.ofString "players", Str.ofString "whole", Str.ofString "some", Str.ofString "one", Str.ofString "many"], fn_281⟩
def en_341 : Ent := ⟨341, Str.ofString "need_let", Str.ofString "need_let", topS 82, [Str.ofString "many"], fn_341⟩
def en_342 : Ent := ⟨342, Str.ofString "need_bank", Str.ofString "need_bank", topS 83, [Str.ofString "table", Str.ofString "bank", Str.ofString "many"], fn_342⟩
def en_351 : Ent := ⟨351, Str.ofString "need_limit", Str.ofString "need_limit", topS 84, [Str.ofString "table", Str.ofString "limit", Str.ofString "many"], fn_351⟩
def en_343 : Ent := ⟨343, Str.ofString "floors_of", Str.ofString "floors_of", topS 85, [Str.ofString "players", Str.ofString "bank", Str.ofString "limit", Str.ofString "k"], fn_343⟩
def en_344 : Ent := ⟨344, Str.ofString "is_let", Str.ofString "is_let", topS 86, [Str.ofString "coins", Str.ofString "floors", Str.ofString "one", Str.ofString "floor"], fn_344⟩
def en_345 : Ent := ⟨345, Str.ofString "counts_in", Str.ofString "counts_in", topS 87, [Str.ofString "factor", Str.ofString "coins", Str.ofString "floors", Str.ofString "many", Str.ofString "rows", Str.ofString "turn", Str.ofString "more", Str.ofString "here", Str.ofString "payer", Str.ofString "there"], fn_345⟩
def en_346 : Ent := ⟨346, Str.ofString "words_in_credit", Str.ofString "words_in", topS 88, [Str.ofString "factor", Str.ofString "coins", Str.ofString "floors", Str.ofString "many", Str.ofString "rows", Str.ofString "turn", Str.ofString "more", Str.ofString "word", Str.ofString "here", Str.ofString "payer", Str.ofString "there"], fn_346⟩
def en_347 : Ent := ⟨347, Str.ofString "bank_count", Str.ofString "bank_count", topS 90, [Str.ofString "table", Str.ofString "bank", Str.ofString "many"], fn_347⟩
def en_348 : Ent := ⟨348, Str.ofString "bank_words", Str.ofString "bank_words", topS 91, [Str.ofString "table", Str.ofString "bank", Str.ofString "many"], fn_348⟩
def en_349 : Ent := ⟨349, Str.ofString "bank_least", Str.ofString "bank_least", topS 92, [Str.ofString "table", Str.ofString "bank", Str.ofString "many", Str.ofString "some", Str.ofString "coins"], fn_349⟩
def en_352 : Ent := ⟨352, Str.ofString "limit_count", Str.ofString "limit_count", topS 93, [Str.ofString "table", Str.ofString "limit", Str.ofString "many"], fn_352⟩
def en_353 : Ent := ⟨353, Str.ofString "limit_words", Str.ofString "limit_words", topS 94, [Str.ofString "table", Str.ofString "limit", Str.ofString "many"], fn_353⟩
def en_354 : Ent := ⟨354, Str.ofString "least_limit", Str.ofString "least_limit", topS 95, [Str.ofString "table", Str.ofString "word"], fn_354⟩
def en_210 : Ent := ⟨210, Str.ofString "need_pair", Str.ofString "need_pair", topS 98, [Str.ofString "one", Str.ofString "other"], fn_210⟩
def en_211 : Ent := ⟨211, Str.ofString "exponent", Str.ofString "exponent", topS 99, [Str.ofString "total", Str.ofString "found"], fn_211⟩
def en_212 : Ent := ⟨212, Str.ofString "pair_rounds", Str.ofString "pair_rounds", topS 100, [Str.ofString "one", Str.ofString "other"], fn_212⟩
def en_213 : Ent := ⟨213, Str.ofString "pair_step", Str.ofString "pair_step", topS 101, [Str.ofString "one", Str.ofString "other"], fn_213⟩
def en_214 : Ent := ⟨214, Str.ofString "pair_word", Str.ofString "pair_word", topS 102, [Str.ofString "one", Str.ofString "other", Str.ofString "many", Str.ofString "found", Str.ofString "turn", Str.ofString "payer"], fn_214⟩
def en_215 : Ent := ⟨215, Str.ofString "left_of", Str.ofString "left_of", topS 103, [Str.ofString "many", Str.ofString "total", Str.ofString "found", Str.ofString "base", Str.ofString "left"], fn_215⟩
def en_216 : Ent := ⟨216, Str.ofString "pair_coins", Str.ofString "pair_coins", topS 104, [Str.ofString "one", Str.ofString "other", Str.ofString "many", Str.ofString "total", Str.ofString "near", Str.ofString "turn", Str.ofString "payer", Str.ofString "found"], fn_216⟩
def en_413 : Ent := ⟨413, Str.ofString "read_table", Str.ofString "read_table", topS 108, [Str.ofString "text", Str.ofString "reader", Str.ofString "factor", Str.ofString "coins"], fn_413⟩
def en_414 : Ent := ⟨414, Str.ofString "text_of", Str.ofString "text_of", topS 110, [Str.ofString "factor", Str.ofString "coins", Str.ofString "one"], fn_414⟩
def en_415 : Ent := ⟨415, Str.ofString "picture_in", Str.ofString "picture_in", topS 111, [Str.ofString "table", Str.ofString "many", Str.ofString "found", Str.ofString "here", Str.ofString "turn"], fn_415⟩
def en_416 : Ent := ⟨416, Str.ofString "picture", Str.ofString "picture", topS 112, [Str.ofString "table", Str.ofString "many"], fn_416⟩
def en_417 : Ent := ⟨417, Str.ofString "read_picture", Str.ofString "read_picture", topS 113, [Str.ofString "some", Str.ofString "table"], fn_417⟩
def en_222 : Ent := ⟨222, Str.ofString "need_tail", Str.ofString "need_tail", topS 116, [Str.ofString "factor", Str.ofString "players", Str.ofString "word", Str.ofString "tail", Str.ofString "one"], fn_222⟩
def en_223 : Ent := ⟨223, Str.ofString "shares_in", Str.ofString "shares_in", topS 117, [Str.ofString "factor", Str.ofString "players", Str.ofString "word", Str.ofString "tail", Str.ofString "size", Str.ofString "again", Str.ofString "heads", Str.ofString "backs", Str.ofString "one", Str.ofString "other"], fn_223⟩
def en_230 : Ent := ⟨230, Str.ofString "shares_of", Str.ofString "shares_of", topS 118, [Str.ofString "factor", Str.ofString "players", Str.ofString "word", Str.ofString "tail"], fn_230⟩
def en_224 : Ent := ⟨224, Str.ofString "least_of", Str.ofString "least_of", topS 119, [Str.ofString "factor", Str.ofString "players", Str.ofString "word", Str.ofString "tail", Str.ofString "some", Str.ofString "whole", Str.ofString "one"], fn_224⟩
def en_225 : Ent := ⟨225, Str.ofString "tail_in", Str.ofString "tail_in", topS 120, [Str.ofString "factor", Str.ofString "coins", Str.ofString "ahead", Str.ofString "many", Str.ofString "some", Str.ofString "word", Str.ofString "tail", Str.ofString "size", Str.ofString "k"], fn_225⟩
def en_226 : Ent := ⟨226, Str.ofString "tail_of", Str.ofString "tail_of", topS 121, [Str.ofString "table"], fn_226⟩
def en_227 : Ent := ⟨227, Str.ofString "need_like", Str.ofString "need_like", topS 122, [Str.ofString "table", Str.ofString "other"], fn_227⟩
def en_228 : Ent := ⟨228, Str.ofString "same_rounds", Str.ofString "same_rounds", topS 123, [Str.ofString "table", Str.ofString "other", Str.ofString "factor", Str.ofString "one", Str.ofString "two", Str.ofString "turn", Str.ofString "first", Str.ofString "second", Str.ofString "a", Str.ofString "b"], fn_228⟩
def en_418 : Ent := ⟨418, Str.ofString "write_word", Str.ofString "write_word", topS 127, [Str.ofString "word", Str.ofString "found", Str.ofString "at", Str.ofString "size"], fn_418⟩
def en_419 : Ent := ⟨419, Str.ofString "is_payer", Str.ofString "is_payer", topS 128, [Str.ofString "sign"], fn_419⟩
def en_421 : Ent := ⟨421, Str.ofString "read_part", Str.ofString "read_part", topS 129, [Str.ofString "text", Str.ofString "at", Str.ofString "begin", Str.ofString "end"], fn_421⟩
def en_420 : Ent := ⟨420, Str.ofString "read_times", Str.ofString "read_times", topS 130, [Str.ofString "text", Str.ofString "begin", Str.ofString "end"], fn_420⟩
def en_422 : Ent := ⟨422, Str.ofString "read_word", Str.ofString "read_word", topS 131, [Str.ofString "text", Str.ofString "found", Str.ofString "at", Str.ofString "begin", Str.ofString "payer", Str.ofString "times"], fn_422⟩
def en_17 : Ent := ⟨17, Str.ofString "_law_alike", Str.ofString "_law_alike", topS 133, [Str.ofString "_law_found", Str.ofString "_law_due", Str.ofString "_law_k"], fn_17⟩
def en_423 : Ent := ⟨423, Str.ofString "law", Str.ofString "law", topS 134, [Str.ofString "_law_script", Str.ofString "_law_row", Str.ofString "_law_found", Str.ofString "_law_table"], fn_423⟩
def TB : Tab := ⟨[en_1, en_77, en_78, en_2, en_3, en_4, en_6, en_7, en_19, en_20, en_21, en_22, en_25, en_26, en_30, en_37, en_119, en_120, en_121, en_122, en_123, en_124, en_125, en_127, en_128, en_286, en_219, en_220, en_173, en_174, en_175, en_183, en_177, en_178, en_180, en_189, en_276, en_202, en_394, en_376, en_395, en_396, en_279, en_280, en_281, en_341, en_342, en_351, en_343, en_344, en_345, en_346, en_347, en_348, en_349, en_352, en_353, en_354, en_210, en_211, en_212, en_213, en_214, en_215, en_216, en_413, en_414, en_415, en_416, en_417, en_222, en_223, en_230, en_224, en_225, en_226, en_227, en_228, en_418, en_419, en_421, en_420, en_422, en_17, en_423],
  [(Str.ofString "DIGITS_tabletext", .str (Str.ofString "0123456789")), (Str.ofString "DIGITS_wordtext", .str (Str.ofString "0123456789")), (Str.ofString "LEAST_FACTOR", .int 2), (Str.ofString "MOST_COINS", .int 1000000), (Str.ofString "MOST_ENDING", .int 60), (Str.ofString "MOST_FACTOR", .int 9), (Str.ofString "MOST_FAR", .int 1000000), (Str.ofString "MOST_LET", .int 12), (Str.ofString "MOST_LISTED", .int 4), (Str.ofString "MOST_LONG_allwords", .int 6), (Str.ofString "MOST_LONG_moving", .int 6), (Str.ofString "MOST_PLAYERS", .int 6), (Str.ofString "MOST_ROUNDS", .int 40), (Str.ofString "MOST_SINGLE", .int 2), (Str.ofString "MOST_TAIL", .int 60), (Str.ofString "MOST_WHOLE", .int 100), (Str.ofString "MOST_WORDS_allwords", .int 2000), (Str.ofString "MOST_WORDS_credit", .int 2000)],
  [Str.ofString "abs", Str.ofString "bool", Str.ofString "enumerate", Str.ofString "int", Str.ofString "isinstance", Str.ofString "len", Str.ofString "list", Str.ofString "max", Str.ofString "min", Str.ofString "range", Str.ofString "sorted", Str.ofString "str", Str.ofString "sum", Str.ofString "tuple", Str.ofString "zip"],
  [en_900406, en_900407, en_900409, en_900412, en_900411, en_900408, en_900410], true, [Str.ofString "InvalidText"]⟩
theorem look_1 : TB.fn 1 = some fn_1 := by rfl
theorem look_77 : TB.fn 77 = some fn_77 := by rfl
theorem look_78 : TB.fn 78 = some fn_78 := by rfl
theorem look_2 : TB.fn 2 = some fn_2 := by rfl
theorem look_3 : TB.fn 3 = some fn_3 := by rfl
theorem look_4 : TB.fn 4 = some fn_4 := by rfl
theorem look_6 : TB.fn 6 = some fn_6 := by rfl
theorem look_7 : TB.fn 7 = some fn_7 := by rfl
theorem look_19 : TB.fn 19 = some fn_19 := by rfl
theorem look_20 : TB.fn 20 = some fn_20 := by rfl
theorem look_21 : TB.fn 21 = some fn_21 := by rfl
theorem look_22 : TB.fn 22 = some fn_22 := by rfl
theorem look_25 : TB.fn 25 = some fn_25 := by rfl
theorem look_26 : TB.fn 26 = some fn_26 := by rfl
theorem look_30 : TB.fn 30 = some fn_30 := by rfl
theorem look_37 : TB.fn 37 = some fn_37 := by rfl
theorem look_119 : TB.fn 119 = some fn_119 := by rfl
theorem look_120 : TB.fn 120 = some fn_120 := by rfl
theorem look_121 : TB.fn 121 = some fn_121 := by rfl
theorem look_122 : TB.fn 122 = some fn_122 := by rfl
theorem look_123 : TB.fn 123 = some fn_123 := by rfl
theorem look_124 : TB.fn 124 = some fn_124 := by rfl
theorem look_125 : TB.fn 125 = some fn_125 := by rfl
theorem look_127 : TB.fn 127 = some fn_127 := by rfl
theorem look_128 : TB.fn 128 = some fn_128 := by rfl
theorem look_286 : TB.fn 286 = some fn_286 := by rfl
theorem look_219 : TB.fn 219 = some fn_219 := by rfl
theorem look_220 : TB.fn 220 = some fn_220 := by rfl
theorem look_173 : TB.fn 173 = some fn_173 := by rfl
theorem look_174 : TB.fn 174 = some fn_174 := by rfl
theorem look_175 : TB.fn 175 = some fn_175 := by rfl
theorem look_183 : TB.fn 183 = some fn_183 := by rfl
theorem look_177 : TB.fn 177 = some fn_177 := by rfl
theorem look_178 : TB.fn 178 = some fn_178 := by rfl
theorem look_180 : TB.fn 180 = some fn_180 := by rfl
theorem look_189 : TB.fn 189 = some fn_189 := by rfl
theorem look_276 : TB.fn 276 = some fn_276 := by rfl
theorem look_202 : TB.fn 202 = some fn_202 := by rfl
theorem look_394 : TB.fn 394 = some fn_394 := by rfl
theorem look_376 : TB.fn 376 = some fn_376 := by rfl
theorem look_395 : TB.fn 395 = some fn_395 := by rfl
theorem look_396 : TB.fn 396 = some fn_396 := by rfl
theorem look_279 : TB.fn 279 = some fn_279 := by rfl
theorem look_280 : TB.fn 280 = some fn_280 := by rfl
theorem look_281 : TB.fn 281 = some fn_281 := by rfl
theorem look_341 : TB.fn 341 = some fn_341 := by rfl
theorem look_342 : TB.fn 342 = some fn_342 := by rfl
theorem look_351 : TB.fn 351 = some fn_351 := by rfl
theorem look_343 : TB.fn 343 = some fn_343 := by rfl
theorem look_344 : TB.fn 344 = some fn_344 := by rfl
theorem look_345 : TB.fn 345 = some fn_345 := by rfl
theorem look_346 : TB.fn 346 = some fn_346 := by rfl
theorem look_347 : TB.fn 347 = some fn_347 := by rfl
theorem look_348 : TB.fn 348 = some fn_348 := by rfl
theorem look_349 : TB.fn 349 = some fn_349 := by rfl
theorem look_352 : TB.fn 352 = some fn_352 := by rfl
theorem look_353 : TB.fn 353 = some fn_353 := by rfl
theorem look_354 : TB.fn 354 = some fn_354 := by rfl
theorem look_210 : TB.fn 210 = some fn_210 := by rfl
theorem look_211 : TB.fn 211 = some fn_211 := by rfl
theorem look_212 : TB.fn 212 = some fn_212 := by rfl
theorem look_213 : TB.fn 213 = some fn_213 := by rfl
theorem look_214 : TB.fn 214 = some fn_214 := by rfl
theorem look_215 : TB.fn 215 = some fn_215 := by rfl
theorem look_216 : TB.fn 216 = some fn_216 := by rfl
theorem look_413 : TB.fn 413 = some fn_413 := by rfl
theorem look_414 : TB.fn 414 = some fn_414 := by rfl
theorem look_415 : TB.fn 415 = some fn_415 := by rfl
theorem look_416 : TB.fn 416 = some fn_416 := by rfl
theorem look_417 : TB.fn 417 = some fn_417 := by rfl
theorem look_222 : TB.fn 222 = some fn_222 := by rfl
theorem look_223 : TB.fn 223 = some fn_223 := by rfl
theorem look_230 : TB.fn 230 = some fn_230 := by rfl
theorem look_224 : TB.fn 224 = some fn_224 := by rfl
theorem look_225 : TB.fn 225 = some fn_225 := by rfl
theorem look_226 : TB.fn 226 = some fn_226 := by rfl
theorem look_227 : TB.fn 227 = some fn_227 := by rfl
theorem look_228 : TB.fn 228 = some fn_228 := by rfl
theorem look_418 : TB.fn 418 = some fn_418 := by rfl
theorem look_419 : TB.fn 419 = some fn_419 := by rfl
theorem look_421 : TB.fn 421 = some fn_421 := by rfl
theorem look_420 : TB.fn 420 = some fn_420 := by rfl
theorem look_422 : TB.fn 422 = some fn_422 := by rfl
theorem look_17 : TB.fn 17 = some fn_17 := by rfl
theorem look_423 : TB.fn 423 = some fn_423 := by rfl
theorem look_900406 : TB.fn 900406 = some fn_900406 := by rfl
theorem look_900407 : TB.fn 900407 = some fn_900407 := by rfl
theorem look_900409 : TB.fn 900409 = some fn_900409 := by rfl
theorem look_900412 : TB.fn 900412 = some fn_900412 := by rfl
theorem look_900411 : TB.fn 900411 = some fn_900411 := by rfl
theorem look_900408 : TB.fn 900408 = some fn_900408 := by rfl
theorem look_900410 : TB.fn 900410 = some fn_900410 := by rfl

def saysTrue : Option (SV × List D) → Bool
  | some (.val (.bool true), _) => true
  | _ => false
theorem says {x : Option (SV × List D)} (h : saysTrue x = true) : ∃ r, x = some (.val (.bool true), r) := by
  unfold saysTrue at h
  split at h
  · exact ⟨_, rfl⟩
  · cases h
theorem law_true : ∀ ns : List Int, ns.length ≤ 63 → ∃ r, run TB.fn 47 423 none [scrD ns] = some (.val (.bool true), r) := fun ns _ => says (by kernel_rfl)

theorem TB_ok : TB.ok = true := by decide +kernel
theorem mem_all_cons {α : Type} {p : α → Prop} {x : α} {l : List α} (h : p x) (r : ∀ y ∈ l, p y) : ∀ y ∈ x :: l, p y := fun y hy => by
  rcases List.mem_cons.mp hy with e | e
  · rw [e]; exact h
  · exact r y e
theorem mem_all_nil {α : Type} {p : α → Prop} : ∀ y ∈ ([] : List α), p y := fun _ h => nomatch h
theorem all_mk {P : Program} {w : World} {K : PySem.W.Frag} {h : Heap} {mg : Str → Option Value} {fa : Addr} (X : K.In h) (G : h.Ns mainGlobals mg) (hfa : mg "law" = some (.ref fa)) (c : He.SaysD faL fnL K) (nl : noLst K = true) :
    ∃ fd : FuncData, (∀ (s : Shared) (v : Value), BindsTo s fd ⟨[v], []⟩ [(Str.ofString "_law_script", v)]) ∧ ∀ base : Heap, K.In base → base.Ns mainGlobals mg → FnOk P w K mg base CX0 94 fa fd [Str.ofString "_law_script"] (spLaw K 63) := by
  obtain ⟨fd0, D0⟩ := c.def_ 0 (d := dd_0) rfl
  have F0 := fun_D (st := topS 16) D0
  have a0 := He.glo_ok X G (c.fact 0 (f := .glo (Str.ofString "is_in")) rfl)
  have B0 := F0.binds (ps := [Str.ofString "value", Str.ofString "least", Str.ofString "most"]) fun _ _ _ _ _ _ us hl => match us, hl with | [_, _, _], _ => rfl
  obtain ⟨fd1, D1⟩ := c.def_ 1 (d := dd_1) rfl
  have F1 := fun_D (st := topS 17) D1
  have a1 := He.glo_ok X G (c.fact 1 (f := .glo (Str.ofString "gcd")) rfl)
  have B1 := F1.binds (ps := [Str.ofString "one", Str.ofString "other"]) fun _ _ _ _ _ _ us hl => match us, hl with | [_, _], _ => rfl
  obtain ⟨fd2, D2⟩ := c.def_ 2 (d := dd_2) rfl
  have F2 := fun_D (st := topS 18) D2
  have a2 := He.glo_ok X G (c.fact 2 (f := .glo (Str.ofString "reduced")) rfl)
  have B2 := F2.binds (ps := [Str.ofString "numerator", Str.ofString "denominator"]) fun _ _ _ _ _ _ us hl => match us, hl with | [_, _], _ => rfl
  obtain ⟨fd3, D3⟩ := c.def_ 3 (d := dd_3) rfl
  have F3 := fun_D (st := topS 24) D3
  have a3 := He.glo_ok X G (c.fact 3 (f := .glo (Str.ofString "is_factor")) rfl)
  have B3 := F3.binds (ps := [Str.ofString "value"]) fun _ _ _ _ _ _ us hl => match us, hl with | [_], _ => rfl
  obtain ⟨fd4, D4⟩ := c.def_ 4 (d := dd_4) rfl
  have F4 := fun_D (st := topS 25) D4
  have a4 := He.glo_ok X G (c.fact 4 (f := .glo (Str.ofString "need_table")) rfl)
  have B4 := F4.binds (ps := [Str.ofString "table"]) fun _ _ _ _ _ _ us hl => match us, hl with | [_], _ => rfl
  obtain ⟨fd5, D5⟩ := c.def_ 5 (d := dd_5) rfl
  have F5 := fun_D (st := topS 26) D5
  have a5 := He.glo_ok X G (c.fact 5 (f := .glo (Str.ofString "need_player")) rfl)
  have B5 := F5.binds (ps := [Str.ofString "table", Str.ofString "player"]) fun _ _ _ _ _ _ us hl => match us, hl with | [_, _], _ => rfl
  obtain ⟨fd6, D6⟩ := c.def_ 6 (d := dd_6) rfl
  have F6 := fun_D (st := topS 27) D6
  have a6 := He.glo_ok X G (c.fact 6 (f := .glo (Str.ofString "owed_in")) rfl)
  have B6 := F6.binds (ps := [Str.ofString "factor", Str.ofString "coins", Str.ofString "player"]) fun _ _ _ _ _ _ us hl => match us, hl with | [_, _, _], _ => rfl
  obtain ⟨fd7, D7⟩ := c.def_ 7 (d := dd_7) rfl
  have F7 := fun_D (st := topS 28) D7
  have a7 := He.glo_ok X G (c.fact 7 (f := .glo (Str.ofString "payers_in")) rfl)
  have B7 := F7.binds (ps := [Str.ofString "factor", Str.ofString "coins"]) fun _ _ _ _ _ _ us hl => match us, hl with | [_, _], _ => rfl
  obtain ⟨fd8, D8⟩ := c.def_ 8 (d := dd_8) rfl
  have F8 := fun_D (st := topS 31) D8
  have a8 := He.glo_ok X G (c.fact 8 (f := .glo (Str.ofString "need_factor")) rfl)
  have B8 := F8.binds (ps := [Str.ofString "factor"]) fun _ _ _ _ _ _ us hl => match us, hl with | [_], _ => rfl
  obtain ⟨fd9, D9⟩ := c.def_ 9 (d := dd_9) rfl
  have F9 := fun_D (st := topS 32) D9
  have a9 := He.glo_ok X G (c.fact 9 (f := .glo (Str.ofString "need_players")) rfl)
  have B9 := F9.binds (ps := [Str.ofString "players"]) fun _ _ _ _ _ _ us hl => match us, hl with | [_], _ => rfl
  obtain ⟨fd10, D10⟩ := c.def_ 10 (d := dd_10) rfl
  have F10 := fun_D (st := topS 33) D10
  have a10 := He.glo_ok X G (c.fact 10 (f := .glo (Str.ofString "need_word")) rfl)
  have B10 := F10.binds (ps := [Str.ofString "players", Str.ofString "word"]) fun _ _ _ _ _ _ us hl => match us, hl with | [_, _], _ => rfl
  obtain ⟨fd11, D11⟩ := c.def_ 11 (d := dd_11) rfl
  have F11 := fun_D (st := topS 34) D11
  have a11 := He.glo_ok X G (c.fact 11 (f := .glo (Str.ofString "need_rounds")) rfl)
  have B11 := F11.binds (ps := [Str.ofString "many"]) fun _ _ _ _ _ _ us hl => match us, hl with | [_], _ => rfl
  obtain ⟨fd12, D12⟩ := c.def_ 12 (d := dd_12) rfl
  have F12 := fun_D (st := topS 35) D12
  have a12 := He.glo_ok X G (c.fact 12 (f := .glo (Str.ofString "power")) rfl)
  have B12 := F12.binds (ps := [Str.ofString "factor", Str.ofString "many"]) fun _ _ _ _ _ _ us hl => match us, hl with | [_, _], _ => rfl
  obtain ⟨fd13, D13⟩ := c.def_ 13 (d := dd_13) rfl
  have F13 := fun_D (st := topS 36) D13
  have a13 := He.glo_ok X G (c.fact 13 (f := .glo (Str.ofString "numbers_in")) rfl)
  have B13 := F13.binds (ps := [Str.ofString "factor", Str.ofString "players", Str.ofString "word"]) fun _ _ _ _ _ _ us hl => match us, hl with | [_, _, _], _ => rfl
  obtain ⟨fd14, D14⟩ := c.def_ 14 (d := dd_14) rfl
  have F14 := fun_D (st := topS 37) D14
  have a14 := He.glo_ok X G (c.fact 14 (f := .glo (Str.ofString "after_in")) rfl)
  have B14 := F14.binds (ps := [Str.ofString "factor", Str.ofString "coins", Str.ofString "word"]) fun _ _ _ _ _ _ us hl => match us, hl with | [_, _, _], _ => rfl
  obtain ⟨fd15, D15⟩ := c.def_ 15 (d := dd_15) rfl
  have F15 := fun_D (st := topS 38) D15
  have a15 := He.glo_ok X G (c.fact 15 (f := .glo (Str.ofString "payable_in")) rfl)
  have B15 := F15.binds (ps := [Str.ofString "table", Str.ofString "many"]) fun _ _ _ _ _ _ us hl => match us, hl with | [_, _], _ => rfl
  obtain ⟨fd16, D16⟩ := c.def_ 16 (d := dd_16) rfl
  have F16 := fun_D (st := topS 41) D16
  have a16 := He.glo_ok X G (c.fact 16 (f := .glo (Str.ofString "need_both")) rfl)
  have B16 := F16.binds (ps := [Str.ofString "table", Str.ofString "word"]) fun _ _ _ _ _ _ us hl => match us, hl with | [_, _], _ => rfl
  obtain ⟨fd17, D17⟩ := c.def_ 17 (d := dd_17) rfl
  have F17 := fun_D (st := topS 42) D17
  have a17 := He.glo_ok X G (c.fact 17 (f := .glo (Str.ofString "line_of")) rfl)
  have B17 := F17.binds (ps := [Str.ofString "table", Str.ofString "word"]) fun _ _ _ _ _ _ us hl => match us, hl with | [_, _], _ => rfl
  obtain ⟨fd18, D18⟩ := c.def_ 18 (d := dd_18) rfl
  have F18 := fun_D (st := topS 43) D18
  have a18 := He.glo_ok X G (c.fact 18 (f := .glo (Str.ofString "moved_along")) rfl)
  have B18 := F18.binds (ps := [Str.ofString "table", Str.ofString "word"]) fun _ _ _ _ _ _ us hl => match us, hl with | [_, _], _ => rfl
  obtain ⟨fd19, D19⟩ := c.def_ 19 (d := dd_19) rfl
  have F19 := fun_D (st := topS 44) D19
  have a19 := He.glo_ok X G (c.fact 19 (f := .glo (Str.ofString "word_in")) rfl)
  have B19 := F19.binds (ps := [Str.ofString "table", Str.ofString "many"]) fun _ _ _ _ _ _ us hl => match us, hl with | [_, _], _ => rfl
  obtain ⟨fd20, D20⟩ := c.def_ 20 (d := dd_20) rfl
  have F20 := fun_D (st := topS 45) D20
  have a20 := He.glo_ok X G (c.fact 20 (f := .glo (Str.ofString "moved_in")) rfl)
  have B20 := F20.binds (ps := [Str.ofString "table", Str.ofString "many"]) fun _ _ _ _ _ _ us hl => match us, hl with | [_, _], _ => rfl
  obtain ⟨fd21, D21⟩ := c.def_ 21 (d := dd_21) rfl
  have F21 := fun_D (st := topS 46) D21
  have a21 := He.glo_ok X G (c.fact 21 (f := .glo (Str.ofString "moved_word")) rfl)
  have B21 := F21.binds (ps := [Str.ofString "table", Str.ofString "word"]) fun _ _ _ _ _ _ us hl => match us, hl with | [_, _], _ => rfl
  obtain ⟨fd22, D22⟩ := c.def_ 22 (d := dd_22) rfl
  have F22 := fun_D (st := topS 47) D22
  have a22 := He.glo_ok X G (c.fact 22 (f := .glo (Str.ofString "gains")) rfl)
  have B22 := F22.binds (ps := [Str.ofString "table", Str.ofString "word"]) fun _ _ _ _ _ _ us hl => match us, hl with | [_, _], _ => rfl
  obtain ⟨fd23, D23⟩ := c.def_ 23 (d := dd_23) rfl
  have F23 := fun_D (st := topS 48) D23
  have a23 := He.glo_ok X G (c.fact 23 (f := .glo (Str.ofString "handed")) rfl)
  have B23 := F23.binds (ps := [Str.ofString "table", Str.ofString "word"]) fun _ _ _ _ _ _ us hl => match us, hl with | [_, _], _ => rfl
  obtain ⟨fd24, D24⟩ := c.def_ 24 (d := dd_24) rfl
  have F24 := fun_D (st := topS 49) D24
  have a24 := He.glo_ok X G (c.fact 24 (f := .glo (Str.ofString "taken")) rfl)
  have B24 := F24.binds (ps := [Str.ofString "table", Str.ofString "word"]) fun _ _ _ _ _ _ us hl => match us, hl with | [_, _], _ => rfl
  obtain ⟨fd25, D25⟩ := c.def_ 25 (d := dd_25) rfl
  have F25 := fun_D (st := topS 50) D25
  have a25 := He.glo_ok X G (c.fact 25 (f := .glo (Str.ofString "most_moved")) rfl)
  have B25 := F25.binds (ps := [Str.ofString "table", Str.ofString "many"]) fun _ _ _ _ _ _ us hl => match us, hl with | [_, _], _ => rfl
  obtain ⟨fd26, D26⟩ := c.def_ 26 (d := dd_26) rfl
  have F26 := fun_D (st := topS 51) D26
  have a26 := He.glo_ok X G (c.fact 26 (f := .glo (Str.ofString "payer_order")) rfl)
  have B26 := F26.binds (ps := [Str.ofString "table", Str.ofString "many"]) fun _ _ _ _ _ _ us hl => match us, hl with | [_, _], _ => rfl
  obtain ⟨fd27, D27⟩ := c.def_ 27 (d := dd_27) rfl
  have F27 := fun_D (st := topS 52) D27
  have a27 := He.glo_ok X G (c.fact 27 (f := .glo (Str.ofString "times_paid")) rfl)
  have B27 := F27.binds (ps := [Str.ofString "table", Str.ofString "many"]) fun _ _ _ _ _ _ us hl => match us, hl with | [_, _], _ => rfl
  obtain ⟨fd28, D28⟩ := c.def_ 28 (d := dd_28) rfl
  have F28 := fun_D (st := topS 54) D28
  have a28 := He.glo_ok X G (c.fact 28 (f := .glo (Str.ofString "shared")) rfl)
  have B28 := F28.binds (ps := [Str.ofString "coins"]) fun _ _ _ _ _ _ us hl => match us, hl with | [_], _ => rfl
  obtain ⟨fd29, D29⟩ := c.def_ 29 (d := dd_29) rfl
  have F29 := fun_D (st := topS 55) D29
  have a29 := He.glo_ok X G (c.fact 29 (f := .glo (Str.ofString "step")) rfl)
  have B29 := F29.binds (ps := [Str.ofString "factor", Str.ofString "coins"]) fun _ _ _ _ _ _ us hl => match us, hl with | [_, _], _ => rfl
  obtain ⟨fd30, D30⟩ := c.def_ 30 (d := dd_30) rfl
  have F30 := fun_D (st := topS 56) D30
  have a30 := He.glo_ok X G (c.fact 30 (f := .glo (Str.ofString "forever_in")) rfl)
  have B30 := F30.binds (ps := [Str.ofString "factor", Str.ofString "coins"]) fun _ _ _ _ _ _ us hl => match us, hl with | [_, _], _ => rfl
  obtain ⟨fd31, D31⟩ := c.def_ 31 (d := dd_31) rfl
  have F31 := fun_D (st := topS 57) D31
  have a31 := He.glo_ok X G (c.fact 31 (f := .glo (Str.ofString "line")) rfl)
  have B31 := F31.binds (ps := [Str.ofString "factor", Str.ofString "coins"]) fun _ _ _ _ _ _ us hl => match us, hl with | [_, _], _ => rfl
  obtain ⟨fd32, D32⟩ := c.def_ 32 (d := dd_32) rfl
  have F32 := fun_D (st := topS 58) D32
  have a32 := He.glo_ok X G (c.fact 32 (f := .glo (Str.ofString "split")) rfl)
  have B32 := F32.binds (ps := [Str.ofString "factor", Str.ofString "total"]) fun _ _ _ _ _ _ us hl => match us, hl with | [_, _], _ => rfl
  obtain ⟨fd33, D33⟩ := c.def_ 33 (d := dd_33) rfl
  have F33 := fun_D (st := topS 59) D33
  have a33 := He.glo_ok X G (c.fact 33 (f := .glo (Str.ofString "order_of")) rfl)
  have B33 := F33.binds (ps := [Str.ofString "factor", Str.ofString "rest"]) fun _ _ _ _ _ _ us hl => match us, hl with | [_, _], _ => rfl
  obtain ⟨fd34, D34⟩ := c.def_ 34 (d := dd_34) rfl
  have F34 := fun_D (st := topS 60) D34
  have a34 := He.glo_ok X G (c.fact 34 (f := .glo (Str.ofString "period_in")) rfl)
  have B34 := F34.binds (ps := [Str.ofString "factor", Str.ofString "coins"]) fun _ _ _ _ _ _ us hl => match us, hl with | [_, _], _ => rfl
  obtain ⟨fd35, D35⟩ := c.def_ 35 (d := dd_35) rfl
  have F35 := fun_D (st := topS 61) D35
  have a35 := He.glo_ok X G (c.fact 35 (f := .glo (Str.ofString "payers_along")) rfl)
  have B35 := F35.binds (ps := [Str.ofString "factor", Str.ofString "coins", Str.ofString "many"]) fun _ _ _ _ _ _ us hl => match us, hl with | [_, _, _], _ => rfl
  obtain ⟨fd36, D36⟩ := c.def_ 36 (d := dd_36) rfl
  have F36 := fun_D (st := topS 65) D36
  have a36 := He.glo_ok X G (c.fact 36 (f := .glo (Str.ofString "shares")) rfl)
  have B36 := F36.binds (ps := [Str.ofString "total", Str.ofString "players"]) fun _ _ _ _ _ _ us hl => match us, hl with | [_, _], _ => rfl
  obtain ⟨fd37, D37⟩ := c.def_ 37 (d := dd_37) rfl
  have F37 := fun_D (st := topS 66) D37
  have a37 := He.glo_ok X G (c.fact 37 (f := .glo (Str.ofString "need_few")) rfl)
  have B37 := F37.binds (ps := [Str.ofString "players"]) fun _ _ _ _ _ _ us hl => match us, hl with | [_], _ => rfl
  obtain ⟨fd38, D38⟩ := c.def_ 38 (d := dd_38) rfl
  have F38 := fun_D (st := topS 71) D38
  have a38 := He.glo_ok X G (c.fact 38 (f := .glo (Str.ofString "need_words")) rfl)
  have B38 := F38.binds (ps := [Str.ofString "factor", Str.ofString "players", Str.ofString "many"]) fun _ _ _ _ _ _ us hl => match us, hl with | [_, _, _], _ => rfl
  obtain ⟨fd39, D39⟩ := c.def_ 39 (d := dd_39) rfl
  have F39 := fun_D (st := topS 72) D39
  have a39 := He.glo_ok X G (c.fact 39 (f := .glo (Str.ofString "words_in_allwords")) rfl)
  have B39 := F39.binds (ps := [Str.ofString "players", Str.ofString "many"]) fun _ _ _ _ _ _ us hl => match us, hl with | [_, _], _ => rfl
  obtain ⟨fd40, D40⟩ := c.def_ 40 (d := dd_40) rfl
  have F40 := fun_D (st := topS 74) D40
  have a40 := He.glo_ok X G (c.fact 40 (f := .glo (Str.ofString "all_tables")) rfl)
  have B40 := F40.binds (ps := [Str.ofString "factor", Str.ofString "players", Str.ofString "many"]) fun _ _ _ _ _ _ us hl => match us, hl with | [_, _, _], _ => rfl
  obtain ⟨fd41, D41⟩ := c.def_ 41 (d := dd_41) rfl
  have F41 := fun_D (st := topS 75) D41
  have a41 := He.glo_ok X G (c.fact 41 (f := .glo (Str.ofString "cycle_lengths")) rfl)
  have B41 := F41.binds (ps := [Str.ofString "factor", Str.ofString "players", Str.ofString "many"]) fun _ _ _ _ _ _ us hl => match us, hl with | [_, _, _], _ => rfl
  obtain ⟨fd42, D42⟩ := c.def_ 42 (d := dd_42) rfl
  have F42 := fun_D (st := topS 76) D42
  have a42 := He.glo_ok X G (c.fact 42 (f := .glo (Str.ofString "ending")) rfl)
  have B42 := F42.binds (ps := [Str.ofString "factor", Str.ofString "players", Str.ofString "whole"]) fun _ _ _ _ _ _ us hl => match us, hl with | [_, _, _], _ => rfl
  obtain ⟨fd43, D43⟩ := c.def_ 43 (d := dd_43) rfl
  have F43 := fun_D (st := topS 77) D43
  have a43 := He.glo_ok X G (c.fact 43 (f := .glo (Str.ofString "longest_word")) rfl)
  have B43 := F43.binds (ps := [Str.ofString "factor", Str.ofString "players", Str.ofString "whole"]) fun _ _ _ _ _ _ us hl => match us, hl with | [_, _, _], _ => rfl
  obtain ⟨fd44, D44⟩ := c.def_ 44 (d := dd_44) rfl
  have F44 := fun_D (st := topS 78) D44
  have a44 := He.glo_ok X G (c.fact 44 (f := .glo (Str.ofString "ending_counts")) rfl)
  have B44 := F44.binds (ps := [Str.ofString "factor", Str.ofString "players", Str.ofString "whole"]) fun _ _ _ _ _ _ us hl => match us, hl with | [_, _, _], _ => rfl
  obtain ⟨fd45, D45⟩ := c.def_ 45 (d := dd_45) rfl
  have F45 := fun_D (st := topS 82) D45
  have a45 := He.glo_ok X G (c.fact 45 (f := .glo (Str.ofString "need_let")) rfl)
  have B45 := F45.binds (ps := [Str.ofString "many"]) fun _ _ _ _ _ _ us hl => match us, hl with | [_], _ => rfl
  obtain ⟨fd46, D46⟩ := c.def_ 46 (d := dd_46) rfl
  have F46 := fun_D (st := topS 83) D46
  have a46 := He.glo_ok X G (c.fact 46 (f := .glo (Str.ofString "need_bank")) rfl)
  have B46 := F46.binds (ps := [Str.ofString "table", Str.ofString "bank", Str.ofString "many"]) fun _ _ _ _ _ _ us hl => match us, hl with | [_, _, _], _ => rfl
  obtain ⟨fd47, D47⟩ := c.def_ 47 (d := dd_47) rfl
  have F47 := fun_D (st := topS 84) D47
  have a47 := He.glo_ok X G (c.fact 47 (f := .glo (Str.ofString "need_limit")) rfl)
  have B47 := F47.binds (ps := [Str.ofString "table", Str.ofString "limit", Str.ofString "many"]) fun _ _ _ _ _ _ us hl => match us, hl with | [_, _, _], _ => rfl
  obtain ⟨fd48, D48⟩ := c.def_ 48 (d := dd_48) rfl
  have F48 := fun_D (st := topS 85) D48
  have a48 := He.glo_ok X G (c.fact 48 (f := .glo (Str.ofString "floors_of")) rfl)
  have B48 := F48.binds (ps := [Str.ofString "players", Str.ofString "bank", Str.ofString "limit"]) fun _ _ _ _ _ _ us hl => match us, hl with | [_, _, _], _ => rfl
  obtain ⟨fd49, D49⟩ := c.def_ 49 (d := dd_49) rfl
  have F49 := fun_D (st := topS 86) D49
  have a49 := He.glo_ok X G (c.fact 49 (f := .glo (Str.ofString "is_let")) rfl)
  have B49 := F49.binds (ps := [Str.ofString "coins", Str.ofString "floors"]) fun _ _ _ _ _ _ us hl => match us, hl with | [_, _], _ => rfl
  obtain ⟨fd50, D50⟩ := c.def_ 50 (d := dd_50) rfl
  have F50 := fun_D (st := topS 87) D50
  have a50 := He.glo_ok X G (c.fact 50 (f := .glo (Str.ofString "counts_in")) rfl)
  have B50 := F50.binds (ps := [Str.ofString "factor", Str.ofString "coins", Str.ofString "floors", Str.ofString "many"]) fun _ _ _ _ _ _ us hl => match us, hl with | [_, _, _, _], _ => rfl
  obtain ⟨fd51, D51⟩ := c.def_ 51 (d := dd_51) rfl
  have F51 := fun_D (st := topS 88) D51
  have a51 := He.glo_ok X G (c.fact 51 (f := .glo (Str.ofString "words_in_credit")) rfl)
  have B51 := F51.binds (ps := [Str.ofString "factor", Str.ofString "coins", Str.ofString "floors", Str.ofString "many"]) fun _ _ _ _ _ _ us hl => match us, hl with | [_, _, _, _], _ => rfl
  obtain ⟨fd52, D52⟩ := c.def_ 52 (d := dd_52) rfl
  have F52 := fun_D (st := topS 90) D52
  have a52 := He.glo_ok X G (c.fact 52 (f := .glo (Str.ofString "bank_count")) rfl)
  have B52 := F52.binds (ps := [Str.ofString "table", Str.ofString "bank", Str.ofString "many"]) fun _ _ _ _ _ _ us hl => match us, hl with | [_, _, _], _ => rfl
  obtain ⟨fd53, D53⟩ := c.def_ 53 (d := dd_53) rfl
  have F53 := fun_D (st := topS 91) D53
  have a53 := He.glo_ok X G (c.fact 53 (f := .glo (Str.ofString "bank_words")) rfl)
  have B53 := F53.binds (ps := [Str.ofString "table", Str.ofString "bank", Str.ofString "many"]) fun _ _ _ _ _ _ us hl => match us, hl with | [_, _, _], _ => rfl
  obtain ⟨fd54, D54⟩ := c.def_ 54 (d := dd_54) rfl
  have F54 := fun_D (st := topS 92) D54
  have a54 := He.glo_ok X G (c.fact 54 (f := .glo (Str.ofString "bank_least")) rfl)
  have B54 := F54.binds (ps := [Str.ofString "table", Str.ofString "bank", Str.ofString "many"]) fun _ _ _ _ _ _ us hl => match us, hl with | [_, _, _], _ => rfl
  obtain ⟨fd55, D55⟩ := c.def_ 55 (d := dd_55) rfl
  have F55 := fun_D (st := topS 93) D55
  have a55 := He.glo_ok X G (c.fact 55 (f := .glo (Str.ofString "limit_count")) rfl)
  have B55 := F55.binds (ps := [Str.ofString "table", Str.ofString "limit", Str.ofString "many"]) fun _ _ _ _ _ _ us hl => match us, hl with | [_, _, _], _ => rfl
  obtain ⟨fd56, D56⟩ := c.def_ 56 (d := dd_56) rfl
  have F56 := fun_D (st := topS 94) D56
  have a56 := He.glo_ok X G (c.fact 56 (f := .glo (Str.ofString "limit_words")) rfl)
  have B56 := F56.binds (ps := [Str.ofString "table", Str.ofString "limit", Str.ofString "many"]) fun _ _ _ _ _ _ us hl => match us, hl with | [_, _, _], _ => rfl
  obtain ⟨fd57, D57⟩ := c.def_ 57 (d := dd_57) rfl
  have F57 := fun_D (st := topS 95) D57
  have a57 := He.glo_ok X G (c.fact 57 (f := .glo (Str.ofString "least_limit")) rfl)
  have B57 := F57.binds (ps := [Str.ofString "table", Str.ofString "word"]) fun _ _ _ _ _ _ us hl => match us, hl with | [_, _], _ => rfl
  obtain ⟨fd58, D58⟩ := c.def_ 58 (d := dd_58) rfl
  have F58 := fun_D (st := topS 98) D58
  have a58 := He.glo_ok X G (c.fact 58 (f := .glo (Str.ofString "need_pair")) rfl)
  have B58 := F58.binds (ps := [Str.ofString "one", Str.ofString "other"]) fun _ _ _ _ _ _ us hl => match us, hl with | [_, _], _ => rfl
  obtain ⟨fd59, D59⟩ := c.def_ 59 (d := dd_59) rfl
  have F59 := fun_D (st := topS 99) D59
  have a59 := He.glo_ok X G (c.fact 59 (f := .glo (Str.ofString "exponent")) rfl)
  have B59 := F59.binds (ps := [Str.ofString "total"]) fun _ _ _ _ _ _ us hl => match us, hl with | [_], _ => rfl
  obtain ⟨fd60, D60⟩ := c.def_ 60 (d := dd_60) rfl
  have F60 := fun_D (st := topS 100) D60
  have a60 := He.glo_ok X G (c.fact 60 (f := .glo (Str.ofString "pair_rounds")) rfl)
  have B60 := F60.binds (ps := [Str.ofString "one", Str.ofString "other"]) fun _ _ _ _ _ _ us hl => match us, hl with | [_, _], _ => rfl
  obtain ⟨fd61, D61⟩ := c.def_ 61 (d := dd_61) rfl
  have F61 := fun_D (st := topS 101) D61
  have a61 := He.glo_ok X G (c.fact 61 (f := .glo (Str.ofString "pair_step")) rfl)
  have B61 := F61.binds (ps := [Str.ofString "one", Str.ofString "other"]) fun _ _ _ _ _ _ us hl => match us, hl with | [_, _], _ => rfl
  obtain ⟨fd62, D62⟩ := c.def_ 62 (d := dd_62) rfl
  have F62 := fun_D (st := topS 102) D62
  have a62 := He.glo_ok X G (c.fact 62 (f := .glo (Str.ofString "pair_word")) rfl)
  have B62 := F62.binds (ps := [Str.ofString "one", Str.ofString "other", Str.ofString "many"]) fun _ _ _ _ _ _ us hl => match us, hl with | [_, _, _], _ => rfl
  obtain ⟨fd63, D63⟩ := c.def_ 63 (d := dd_63) rfl
  have F63 := fun_D (st := topS 103) D63
  have a63 := He.glo_ok X G (c.fact 63 (f := .glo (Str.ofString "left_of")) rfl)
  have B63 := F63.binds (ps := [Str.ofString "many", Str.ofString "total"]) fun _ _ _ _ _ _ us hl => match us, hl with | [_, _], _ => rfl
  obtain ⟨fd64, D64⟩ := c.def_ 64 (d := dd_64) rfl
  have F64 := fun_D (st := topS 104) D64
  have a64 := He.glo_ok X G (c.fact 64 (f := .glo (Str.ofString "pair_coins")) rfl)
  have B64 := F64.binds (ps := [Str.ofString "one", Str.ofString "other", Str.ofString "many"]) fun _ _ _ _ _ _ us hl => match us, hl with | [_, _, _], _ => rfl
  obtain ⟨fd65, D65⟩ := c.def_ 65 (d := dd_65) rfl
  have F65 := fun_D (st := topS 108) D65
  have a65 := He.glo_ok X G (c.fact 65 (f := .glo (Str.ofString "read_table")) rfl)
  have B65 := F65.binds (ps := [Str.ofString "text"]) fun _ _ _ _ _ _ us hl => match us, hl with | [_], _ => rfl
  obtain ⟨fd66, D66⟩ := c.def_ 66 (d := dd_66) rfl
  have F66 := fun_D (st := topS 110) D66
  have a66 := He.glo_ok X G (c.fact 66 (f := .glo (Str.ofString "text_of")) rfl)
  have B66 := F66.binds (ps := [Str.ofString "factor", Str.ofString "coins"]) fun _ _ _ _ _ _ us hl => match us, hl with | [_, _], _ => rfl
  obtain ⟨fd67, D67⟩ := c.def_ 67 (d := dd_67) rfl
  have F67 := fun_D (st := topS 111) D67
  have a67 := He.glo_ok X G (c.fact 67 (f := .glo (Str.ofString "picture_in")) rfl)
  have B67 := F67.binds (ps := [Str.ofString "table", Str.ofString "many"]) fun _ _ _ _ _ _ us hl => match us, hl with | [_, _], _ => rfl
  obtain ⟨fd68, D68⟩ := c.def_ 68 (d := dd_68) rfl
  have F68 := fun_D (st := topS 112) D68
  have a68 := He.glo_ok X G (c.fact 68 (f := .glo (Str.ofString "picture")) rfl)
  have B68 := F68.binds (ps := [Str.ofString "table", Str.ofString "many"]) fun _ _ _ _ _ _ us hl => match us, hl with | [_, _], _ => rfl
  obtain ⟨fd69, D69⟩ := c.def_ 69 (d := dd_69) rfl
  have F69 := fun_D (st := topS 113) D69
  have a69 := He.glo_ok X G (c.fact 69 (f := .glo (Str.ofString "read_picture")) rfl)
  have B69 := F69.binds (ps := [Str.ofString "some"]) fun _ _ _ _ _ _ us hl => match us, hl with | [_], _ => rfl
  obtain ⟨fd70, D70⟩ := c.def_ 70 (d := dd_70) rfl
  have F70 := fun_D (st := topS 116) D70
  have a70 := He.glo_ok X G (c.fact 70 (f := .glo (Str.ofString "need_tail")) rfl)
  have B70 := F70.binds (ps := [Str.ofString "factor", Str.ofString "players", Str.ofString "word", Str.ofString "tail"]) fun _ _ _ _ _ _ us hl => match us, hl with | [_, _, _, _], _ => rfl
  obtain ⟨fd71, D71⟩ := c.def_ 71 (d := dd_71) rfl
  have F71 := fun_D (st := topS 117) D71
  have a71 := He.glo_ok X G (c.fact 71 (f := .glo (Str.ofString "shares_in")) rfl)
  have B71 := F71.binds (ps := [Str.ofString "factor", Str.ofString "players", Str.ofString "word", Str.ofString "tail"]) fun _ _ _ _ _ _ us hl => match us, hl with | [_, _, _, _], _ => rfl
  obtain ⟨fd72, D72⟩ := c.def_ 72 (d := dd_72) rfl
  have F72 := fun_D (st := topS 118) D72
  have a72 := He.glo_ok X G (c.fact 72 (f := .glo (Str.ofString "shares_of")) rfl)
  have B72 := F72.binds (ps := [Str.ofString "factor", Str.ofString "players", Str.ofString "word", Str.ofString "tail"]) fun _ _ _ _ _ _ us hl => match us, hl with | [_, _, _, _], _ => rfl
  obtain ⟨fd73, D73⟩ := c.def_ 73 (d := dd_73) rfl
  have F73 := fun_D (st := topS 119) D73
  have a73 := He.glo_ok X G (c.fact 73 (f := .glo (Str.ofString "least_of")) rfl)
  have B73 := F73.binds (ps := [Str.ofString "factor", Str.ofString "players", Str.ofString "word", Str.ofString "tail"]) fun _ _ _ _ _ _ us hl => match us, hl with | [_, _, _, _], _ => rfl
  obtain ⟨fd74, D74⟩ := c.def_ 74 (d := dd_74) rfl
  have F74 := fun_D (st := topS 120) D74
  have a74 := He.glo_ok X G (c.fact 74 (f := .glo (Str.ofString "tail_in")) rfl)
  have B74 := F74.binds (ps := [Str.ofString "factor", Str.ofString "coins"]) fun _ _ _ _ _ _ us hl => match us, hl with | [_, _], _ => rfl
  obtain ⟨fd75, D75⟩ := c.def_ 75 (d := dd_75) rfl
  have F75 := fun_D (st := topS 121) D75
  have a75 := He.glo_ok X G (c.fact 75 (f := .glo (Str.ofString "tail_of")) rfl)
  have B75 := F75.binds (ps := [Str.ofString "table"]) fun _ _ _ _ _ _ us hl => match us, hl with | [_], _ => rfl
  obtain ⟨fd76, D76⟩ := c.def_ 76 (d := dd_76) rfl
  have F76 := fun_D (st := topS 122) D76
  have a76 := He.glo_ok X G (c.fact 76 (f := .glo (Str.ofString "need_like")) rfl)
  have B76 := F76.binds (ps := [Str.ofString "table", Str.ofString "other"]) fun _ _ _ _ _ _ us hl => match us, hl with | [_, _], _ => rfl
  obtain ⟨fd77, D77⟩ := c.def_ 77 (d := dd_77) rfl
  have F77 := fun_D (st := topS 123) D77
  have a77 := He.glo_ok X G (c.fact 77 (f := .glo (Str.ofString "same_rounds")) rfl)
  have B77 := F77.binds (ps := [Str.ofString "table", Str.ofString "other"]) fun _ _ _ _ _ _ us hl => match us, hl with | [_, _], _ => rfl
  obtain ⟨fd78, D78⟩ := c.def_ 78 (d := dd_78) rfl
  have F78 := fun_D (st := topS 127) D78
  have a78 := He.glo_ok X G (c.fact 78 (f := .glo (Str.ofString "write_word")) rfl)
  have B78 := F78.binds (ps := [Str.ofString "word"]) fun _ _ _ _ _ _ us hl => match us, hl with | [_], _ => rfl
  obtain ⟨fd79, D79⟩ := c.def_ 79 (d := dd_79) rfl
  have F79 := fun_D (st := topS 128) D79
  have a79 := He.glo_ok X G (c.fact 79 (f := .glo (Str.ofString "is_payer")) rfl)
  have B79 := F79.binds (ps := [Str.ofString "sign"]) fun _ _ _ _ _ _ us hl => match us, hl with | [_], _ => rfl
  obtain ⟨fd80, D80⟩ := c.def_ 80 (d := dd_80) rfl
  have F80 := fun_D (st := topS 129) D80
  have a80 := He.glo_ok X G (c.fact 80 (f := .glo (Str.ofString "read_part")) rfl)
  have B80 := F80.binds (ps := [Str.ofString "text", Str.ofString "at"]) fun _ _ _ _ _ _ us hl => match us, hl with | [_, _], _ => rfl
  obtain ⟨fd81, D81⟩ := c.def_ 81 (d := dd_81) rfl
  have F81 := fun_D (st := topS 130) D81
  have a81 := He.glo_ok X G (c.fact 81 (f := .glo (Str.ofString "read_times")) rfl)
  have B81 := F81.binds (ps := [Str.ofString "text", Str.ofString "begin", Str.ofString "end"]) fun _ _ _ _ _ _ us hl => match us, hl with | [_, _, _], _ => rfl
  obtain ⟨fd82, D82⟩ := c.def_ 82 (d := dd_82) rfl
  have F82 := fun_D (st := topS 131) D82
  have a82 := He.glo_ok X G (c.fact 82 (f := .glo (Str.ofString "read_word")) rfl)
  have B82 := F82.binds (ps := [Str.ofString "text"]) fun _ _ _ _ _ _ us hl => match us, hl with | [_], _ => rfl
  obtain ⟨fd83, D83⟩ := c.def_ 83 (d := dd_83) rfl
  have F83 := fun_D (st := topS 133) D83
  have a83 := He.glo_ok X G (c.fact 83 (f := .glo (Str.ofString "_law_alike")) rfl)
  have B83 := F83.binds (ps := [Str.ofString "_law_found", Str.ofString "_law_due"]) fun _ _ _ _ _ _ us hl => match us, hl with | [_, _], _ => rfl
  obtain ⟨fd84, D84⟩ := c.def_ 84 (d := dd_84) rfl
  have F84 := fun_D (st := topS 134) D84
  have a84 := He.glo_ok X G (c.fact 84 (f := .glo (Str.ofString "law")) rfl)
  have B84 := F84.binds (ps := [Str.ofString "_law_script"]) fun _ _ _ _ _ _ us hl => match us, hl with | [_], _ => rfl
  letI CI : ClsA := ⟨He.ga K (Str.ofString "Reader")⟩
  obtain ⟨fd85, D85⟩ := c.def_ 85 (d := dd_85) rfl
  have F85 := fun_D (st := mS 107 0) D85
  have M85 := He.meth_ok (c.fact 85 (f := .meth (Str.ofString "Reader") (Str.ofString "__init__")) rfl)
  have B85 := F85.binds (ps := [Str.ofString "self", Str.ofString "text"]) fun _ _ _ _ _ _ us hl => match us, hl with | [_, _], _ => rfl
  obtain ⟨fd86, D86⟩ := c.def_ 86 (d := dd_86) rfl
  have F86 := fun_D (st := mS 107 1) D86
  have M86 := He.meth_ok (c.fact 86 (f := .meth (Str.ofString "Reader") (Str.ofString "sign")) rfl)
  have B86 := F86.binds (ps := [Str.ofString "self"]) fun _ _ _ _ _ _ us hl => match us, hl with | [_], _ => rfl
  obtain ⟨fd87, D87⟩ := c.def_ 87 (d := dd_87) rfl
  have F87 := fun_D (st := mS 107 2) D87
  have M87 := He.meth_ok (c.fact 87 (f := .meth (Str.ofString "Reader") (Str.ofString "skip")) rfl)
  have B87 := F87.binds (ps := [Str.ofString "self"]) fun _ _ _ _ _ _ us hl => match us, hl with | [_], _ => rfl
  obtain ⟨fd88, D88⟩ := c.def_ 88 (d := dd_88) rfl
  have F88 := fun_D (st := mS 107 3) D88
  have M88 := He.meth_ok (c.fact 88 (f := .meth (Str.ofString "Reader") (Str.ofString "take")) rfl)
  have B88 := F88.binds (ps := [Str.ofString "self", Str.ofString "wanted"]) fun _ _ _ _ _ _ us hl => match us, hl with | [_, _], _ => rfl
  obtain ⟨fd89, D89⟩ := c.def_ 89 (d := dd_89) rfl
  have F89 := fun_D (st := mS 107 4) D89
  have M89 := He.meth_ok (c.fact 89 (f := .meth (Str.ofString "Reader") (Str.ofString "factor")) rfl)
  have B89 := F89.binds (ps := [Str.ofString "self"]) fun _ _ _ _ _ _ us hl => match us, hl with | [_], _ => rfl
  obtain ⟨fd90, D90⟩ := c.def_ 90 (d := dd_90) rfl
  have F90 := fun_D (st := mS 107 5) D90
  have M90 := He.meth_ok (c.fact 90 (f := .meth (Str.ofString "Reader") (Str.ofString "number")) rfl)
  have B90 := F90.binds (ps := [Str.ofString "self"]) fun _ _ _ _ _ _ us hl => match us, hl with | [_], _ => rfl
  obtain ⟨fd91, D91⟩ := c.def_ 91 (d := dd_91) rfl
  have F91 := fun_D (st := mS 107 6) D91
  have M91 := He.meth_ok (c.fact 91 (f := .meth (Str.ofString "Reader") (Str.ofString "all_coins")) rfl)
  have B91 := F91.binds (ps := [Str.ofString "self"]) fun _ _ _ _ _ _ us hl => match us, hl with | [_], _ => rfl
  have e := hfa.symm.trans a84
  cases e
  have ES : ∀ e ∈ TB.es, EntOk K mg e := (mem_all_cons ⟨_, _, a0, F0, B0⟩ (mem_all_cons ⟨_, _, a1, F1, B1⟩ (mem_all_cons ⟨_, _, a2, F2, B2⟩ (mem_all_cons ⟨_, _, a3, F3, B3⟩ (mem_all_cons ⟨_, _, a4, F4, B4⟩ (mem_all_cons ⟨_, _, a5, F5, B5⟩ (mem_all_cons ⟨_, _, a6, F6, B6⟩ (mem_all_cons ⟨_, _, a7, F7, B7⟩ (mem_all_cons ⟨_, _, a8, F8, B8⟩ (mem_all_cons ⟨_, _, a9, F9, B9⟩ (mem_all_cons ⟨_, _, a10, F10, B10⟩ (mem_all_cons ⟨_, _, a11, F11, B11⟩ (mem_all_cons ⟨_, _, a12, F12, B12⟩ (mem_all_cons ⟨_, _, a13, F13, B13⟩ (mem_all_cons ⟨_, _, a14, F14, B14⟩ (mem_all_cons ⟨_, _, a15, F15, B15⟩ (mem_all_cons ⟨_, _, a16, F16, B16⟩ (mem_all_cons ⟨_, _, a17, F17, B17⟩ (mem_all_cons ⟨_, _, a18, F18, B18⟩ (mem_all_cons ⟨_, _, a19, F19, B19⟩ (mem_all_cons ⟨_, _, a20, F20, B20⟩ (mem_all_cons ⟨_, _, a21, F21, B21⟩ (mem_all_cons ⟨_, _, a22, F22, B22⟩ (mem_all_cons ⟨_, _, a23, F23, B23⟩ (mem_all_cons ⟨_, _, a24, F24, B24⟩ (mem_all_cons ⟨_, _, a25, F25, B25⟩ (mem_all_cons ⟨_, _, a26, F26, B26⟩ (mem_all_cons ⟨_, _, a27, F27, B27⟩ (mem_all_cons ⟨_, _, a28, F28, B28⟩ (mem_all_cons ⟨_, _, a29, F29, B29⟩ (mem_all_cons ⟨_, _, a30, F30, B30⟩ (mem_all_cons ⟨_, _, a31, F31, B31⟩ (mem_all_cons ⟨_, _, a32, F32, B32⟩ (mem_all_cons ⟨_, _, a33, F33, B33⟩ (mem_all_cons ⟨_, _, a34, F34, B34⟩ (mem_all_cons ⟨_, _, a35, F35, B35⟩ (mem_all_cons ⟨_, _, a36, F36, B36⟩ (mem_all_cons ⟨_, _, a37, F37, B37⟩ (mem_all_cons ⟨_, _, a38, F38, B38⟩ (mem_all_cons ⟨_, _, a39, F39, B39⟩ (mem_all_cons ⟨_, _, a40, F40, B40⟩ (mem_all_cons ⟨_, _, a41, F41, B41⟩ (mem_all_cons ⟨_, _, a42, F42, B42⟩ (mem_all_cons ⟨_, _, a43, F43, B43⟩ (mem_all_cons ⟨_, _, a44, F44, B44⟩ (mem_all_cons ⟨_, _, a45, F45, B45⟩ (mem_all_cons ⟨_, _, a46, F46, B46⟩ (mem_all_cons ⟨_, _, a47, F47, B47⟩ (mem_all_cons ⟨_, _, a48, F48, B48⟩ (mem_all_cons ⟨_, _, a49, F49, B49⟩ (mem_all_cons ⟨_, _, a50, F50, B50⟩ (mem_all_cons ⟨_, _, a51, F51, B51⟩ (mem_all_cons ⟨_, _, a52, F52, B52⟩ (mem_all_cons ⟨_, _, a53, F53, B53⟩ (mem_all_cons ⟨_, _, a54, F54, B54⟩ (mem_all_cons ⟨_, _, a55, F55, B55⟩ (mem_all_cons ⟨_, _, a56, F56, B56⟩ (mem_all_cons ⟨_, _, a57, F57, B57⟩ (mem_all_cons ⟨_, _, a58, F58, B58⟩ (mem_all_cons ⟨_, _, a59, F59, B59⟩ (mem_all_cons ⟨_, _, a60, F60, B60⟩ (mem_all_cons ⟨_, _, a61, F61, B61⟩ (mem_all_cons ⟨_, _, a62, F62, B62⟩ (mem_all_cons ⟨_, _, a63, F63, B63⟩ (mem_all_cons ⟨_, _, a64, F64, B64⟩ (mem_all_cons ⟨_, _, a65, F65, B65⟩ (mem_all_cons ⟨_, _, a66, F66, B66⟩ (mem_all_cons ⟨_, _, a67, F67, B67⟩ (mem_all_cons ⟨_, _, a68, F68, B68⟩ (mem_all_cons ⟨_, _, a69, F69, B69⟩ (mem_all_cons ⟨_, _, a70, F70, B70⟩ (mem_all_cons ⟨_, _, a71, F71, B71⟩ (mem_all_cons ⟨_, _, a72, F72, B72⟩ (mem_all_cons ⟨_, _, a73, F73, B73⟩ (mem_all_cons ⟨_, _, a74, F74, B74⟩ (mem_all_cons ⟨_, _, a75, F75, B75⟩ (mem_all_cons ⟨_, _, a76, F76, B76⟩ (mem_all_cons ⟨_, _, a77, F77, B77⟩ (mem_all_cons ⟨_, _, a78, F78, B78⟩ (mem_all_cons ⟨_, _, a79, F79, B79⟩ (mem_all_cons ⟨_, _, a80, F80, B80⟩ (mem_all_cons ⟨_, _, a81, F81, B81⟩ (mem_all_cons ⟨_, _, a82, F82, B82⟩ (mem_all_cons ⟨_, _, a83, F83, B83⟩ (mem_all_cons ⟨_, _, a84, F84, B84⟩ mem_all_nil)))))))))))))))))))))))))))))))))))))))))))))))))))))))))))))))))))))))))))))))))))))
  have TO : TabOk TB K mg := ⟨ES, (mem_all_cons (cst_str (He.str_ok X G (c.fact 112 (f := .str (Str.ofString "DIGITS_tabletext") (Str.ofString "0123456789")) rfl)) ) (mem_all_cons (cst_str (He.str_ok X G (c.fact 113 (f := .str (Str.ofString "DIGITS_wordtext") (Str.ofString "0123456789")) rfl)) ) (mem_all_cons (cst_int (He.int_ok X G (c.fact 114 (f := .int (Str.ofString "LEAST_FACTOR") 2) rfl)) ) (mem_all_cons (cst_int (He.int_ok X G (c.fact 115 (f := .int (Str.ofString "MOST_COINS") 1000000) rfl)) ) (mem_all_cons (cst_int (He.int_ok X G (c.fact 116 (f := .int (Str.ofString "MOST_ENDING") 60) rfl)) ) (mem_all_cons (cst_int (He.int_ok X G (c.fact 117 (f := .int (Str.ofString "MOST_FACTOR") 9) rfl)) ) (mem_all_cons (cst_int (He.int_ok X G (c.fact 118 (f := .int (Str.ofString "MOST_FAR") 1000000) rfl)) ) (mem_all_cons (cst_int (He.int_ok X G (c.fact 119 (f := .int (Str.ofString "MOST_LET") 12) rfl)) ) (mem_all_cons (cst_int (He.int_ok X G (c.fact 120 (f := .int (Str.ofString "MOST_LISTED") 4) rfl)) ) (mem_all_cons (cst_int (He.int_ok X G (c.fact 121 (f := .int (Str.ofString "MOST_LONG_allwords") 6) rfl)) ) (mem_all_cons (cst_int (He.int_ok X G (c.fact 122 (f := .int (Str.ofString "MOST_LONG_moving") 6) rfl)) ) (mem_all_cons (cst_int (He.int_ok X G (c.fact 123 (f := .int (Str.ofString "MOST_PLAYERS") 6) rfl)) ) (mem_all_cons (cst_int (He.int_ok X G (c.fact 124 (f := .int (Str.ofString "MOST_ROUNDS") 40) rfl)) ) (mem_all_cons (cst_int (He.int_ok X G (c.fact 125 (f := .int (Str.ofString "MOST_SINGLE") 2) rfl)) ) (mem_all_cons (cst_int (He.int_ok X G (c.fact 126 (f := .int (Str.ofString "MOST_TAIL") 60) rfl)) ) (mem_all_cons (cst_int (He.int_ok X G (c.fact 127 (f := .int (Str.ofString "MOST_WHOLE") 100) rfl)) ) (mem_all_cons (cst_int (He.int_ok X G (c.fact 128 (f := .int (Str.ofString "MOST_WORDS_allwords") 2000) rfl)) ) (mem_all_cons (cst_int (He.int_ok X G (c.fact 129 (f := .int (Str.ofString "MOST_WORDS_credit") 2000) rfl)) ) mem_all_nil)))))))))))))))))), (mem_all_cons (He.free_ok X G (c.fact 97 (f := .free (Str.ofString "abs")) rfl)) (mem_all_cons (He.free_ok X G (c.fact 98 (f := .free (Str.ofString "bool")) rfl)) (mem_all_cons (He.free_ok X G (c.fact 99 (f := .free (Str.ofString "enumerate")) rfl)) (mem_all_cons (He.free_ok X G (c.fact 100 (f := .free (Str.ofString "int")) rfl)) (mem_all_cons (He.free_ok X G (c.fact 101 (f := .free (Str.ofString "isinstance")) rfl)) (mem_all_cons (He.free_ok X G (c.fact 102 (f := .free (Str.ofString "len")) rfl)) (mem_all_cons (He.free_ok X G (c.fact 103 (f := .free (Str.ofString "list")) rfl)) (mem_all_cons (He.free_ok X G (c.fact 104 (f := .free (Str.ofString "max")) rfl)) (mem_all_cons (He.free_ok X G (c.fact 105 (f := .free (Str.ofString "min")) rfl)) (mem_all_cons (He.free_ok X G (c.fact 106 (f := .free (Str.ofString "range")) rfl)) (mem_all_cons (He.free_ok X G (c.fact 107 (f := .free (Str.ofString "sorted")) rfl)) (mem_all_cons (He.free_ok X G (c.fact 108 (f := .free (Str.ofString "str")) rfl)) (mem_all_cons (He.free_ok X G (c.fact 109 (f := .free (Str.ofString "sum")) rfl)) (mem_all_cons (He.free_ok X G (c.fact 110 (f := .free (Str.ofString "tuple")) rfl)) (mem_all_cons (He.free_ok X G (c.fact 111 (f := .free (Str.ofString "zip")) rfl)) mem_all_nil))))))))))))))), (mem_all_cons ⟨_, _, M85, F85, B85⟩ (mem_all_cons ⟨_, _, M86, F86, B86⟩ (mem_all_cons ⟨_, _, M87, F87, B87⟩ (mem_all_cons ⟨_, _, M88, F88, B88⟩ (mem_all_cons ⟨_, _, M89, F89, B89⟩ (mem_all_cons ⟨_, _, M90, F90, B90⟩ (mem_all_cons ⟨_, _, M91, F91, B91⟩ mem_all_nil))))))), (fun _ => ⟨He.cls_ok (c.fact 93 (f := .cls (Str.ofString "Reader")) rfl), He.noat_ok (c.fact 95 (f := .noat (Str.ofString "Reader") (Str.ofString "text")) rfl), He.noat_ok (c.fact 96 (f := .noat (Str.ofString "Reader") (Str.ofString "at")) rfl), He.glo_ok X G (c.fact 92 (f := .glo (Str.ofString "Reader")) rfl), mkr_mk (c.fact 94 (f := .mkr (Str.ofString "Reader")) rfl), mkr_kp (c.fact 94 (f := .mkr (Str.ofString "Reader")) rfl)⟩), (mem_all_cons ⟨_, He.glo_ok X G (c.fact 130 (f := .glo (Str.ofString "InvalidText")) rfl)⟩ mem_all_nil)⟩
  have bl := FunD.bindsA (ps := [Str.ofString "_law_script"]) D84 fun _ _ _ _ _ _ us hl => match us, hl with | [_], _ => rfl
  refine ⟨fd84, fun s v => bl s [v] rfl, fun base _ _ => ?_⟩
  exact law_run (k := 47) (e := en_423) TO TB_ok (by simp [TB]) rfl a84 F84 nl law_true
end DP
open PySem PySem.W PySem.Calls PyProof.Rows
set_option maxHeartbeats 0 in
theorem PySem.Challenge.cw_doublepay_k66_known_pairs_holds : PySem.Challenge.rw_doublepay_k66_known_pairs.Holds := by
  w_on; o_law
  refine HandSHeadRun.head_any (r := OpenLaw.row PySem.Challenge.rw_doublepay_k66_known_pairs) (q := view (OpenLaw.row PySem.Challenge.rw_doublepay_k66_known_pairs).prog [134]) (H := DP.hkM) (ob := DP.obT) (M := 9000) (loose := DP.loL) (d := HandSHeadRun.topDef (OpenLaw.row PySem.Challenge.rw_doublepay_k66_known_pairs).prog 134) (kwd := []) DP.obT_eq
    (by kernel_rfl) (fun s => by kernel_rfl) DP.run_top (by kernel_rfl) (by kernel_rfl) (by kernel_rfl) (by rfl) (by first | assumption | decide +kernel) (by decide +kernel) ⟨rfl, rfl, rfl, rfl, rfl, by decide +kernel⟩ ?hw ?hc
  case hw => w_witness2
  case hc =>
    refine L2.walk_ofE (l := PySem.Challenge.rw_doublepay_k66_known_pairs) (n := 63) (k := 94) (x := Str.ofString "_law_script") (CX := L2.CX0) rfl (by decide) (by kernel_rfl) ⟨rfl, by decide, by decide⟩ ?F (fun _ _ _ _ z => z)
    intro w mg fa h Y G hmg0
    obtain ⟨K, KX, c, nl⟩ := Y
    have hmg : mg ("law" : PySem.Str) = some (.ref fa) := by
      have e : (HandSHeadRun.topDef (OpenLaw.row PySem.Challenge.rw_doublepay_k66_known_pairs).prog 134).name = ("law" : PySem.Str) := by kernel_rfl
      rw [← e]
      exact hmg0
    obtain ⟨fd, hb, hF⟩ := DP.all_mk (P := (PySem.Challenge.rw_doublepay_k66_known_pairs).prog) (w := w) KX G hmg c nl
    exact ⟨K, fd, DP.spLaw K 63, KX, hb, fun H a ns hl ho hS => ⟨a, ns, rfl, hl, ho, hS, fun _ => rfl⟩, hF⟩
